import PyProof.Rows.All
import Wide.All
import OpenK.AllK
import Wide.FinOn
import KE.KStateDown
import KE.KDictDisplayH
import HandS.ForMost
import HandS.Walk
import HandS.Exc
import HandS.Defaults
import HandS.Codes
import HandS.Conv
import HandS.IsInst
import HandS.Sort
import HandS.SortRule
import HandS.SetFor
import HandS.Small
import HandS.Strs
import HandS.Deep
import HandS.RevRange
import HandS.FStr
import HandS.WideBits
import HandS.TryElse
import HandS.TryMany
import HandS.CallLocal
import HandS.CallRecv
import HandS.Lambda
import HandS.Nested
import HandS.NestedK
import HandS.EndTab
import HandS.HeadWalk
import HandS.Head0
import HandS.Head1
import HandS.Head2
import HandS.HeadEnd
import HandS.HeadHook1
import HandS.HeadHook2
import PySem.Challenge.RW_halvedpictures_k92_whole_few_numbers_of
set_option Elab.async false
set_option linter.all false
set_option maxRecDepth 100000
set_option maxHeartbeats 4000000
local macro_rules | `(tactic| tm_at "len") => `(tactic| (intro vs H Q h; repeat (first | (obtain ⟨hvs, _⟩ := h; subst hvs; rfl) | obtain ⟨_, h⟩ := h)))
/-! what the head is asked: the written part of the heap, taken along four paths from the module's names, and facts of it by names -/
namespace Kp
open PySem PySem.Spec PyProof.Rows L2
def refs1 (o : Obj) : List Addr := match o.data with
  | .func fd => He.refV fd.code
  | .cls cd => [cd.ns]
  | .dict es _ => es.toList.flatMap fun e => He.refV e.val
  | _ => []
def hop (g : Addr → Option Obj) (as : List Addr) : List Addr := as.flatMap fun a => match g a with
  | some o => refs1 o
  | none => []
def asP (g : Addr → Option Obj) : List Addr :=
  [mainGlobals] ++ (hop g [mainGlobals] ++ (hop g (hop g [mainGlobals]) ++ (hop g (hop g (hop g [mainGlobals])) ++ hop g (hop g (hop g (hop g [mainGlobals]))))))
/-- a class whose __init__ is object's -/
def noIni (K : PySem.W.Frag) (C : Addr) : Bool :=
  PySem.W.makesIn K C && (He.eqO (PySem.W.findIn K (.ref C) "__init__") (some (some (.builtin "object.__init__"))) && PySem.W.keepIn K (.ref C))
/-- a class of which isinstance is asked -/
def isiB (K : PySem.W.Frag) (C : Addr) : Bool :=
  He.eqO (PySem.W.findIn K (.ref C) "__class__") (some (some (.builtin "object.__class__"))) &&
  (decide (PySem.W.specialIn K (.builtin "object.__class__") "__get__" = some (some (.builtin "getset_descriptor.__get__"))) &&
  (decide (PySem.W.takesIn K (.builtin "object.__class__") = some true) && (decide (PySem.W.mroIn K C (.type "object") = some true) &&
  decide (PySem.W.kitOne K (.ref C) (.ref C) = some true))))
/-- the code object of a function, the table of a code object -/
def codeOf (K : PySem.W.Frag) (f : Addr) : Addr := match K.lookup f with
  | some ⟨_, _, .func fd, _⟩ => (match fd.code with
    | .ref c => c
    | _ => 0)
  | _ => 0
def tabOf (K : PySem.W.Frag) (c : Addr) : Addr := match K.lookup c with
  | some ⟨_, _, .fields vs, _⟩ => (match (vs[11]? : Option Value) with
    | some (.ref P) => P
    | _ => 0)
  | _ => 0
def askC (K : PySem.W.Frag) : Addr := codeOf K (He.ga K "_law_asked")
def askP (K : PySem.W.Frag) : Addr := tabOf K (askC K)
def emptyB (o : Option Obj) : Bool := match o with
  | some ⟨.none, none, .fields vs, sl⟩ => vs.isEmpty && sl.isEmpty
  | _ => false
theorem emptyB_eq {o : Option Obj} (h : emptyB o = true) : o = some { cls := .none, data := .fields #[] } := by
  cases o with
  | none => cases h
  | some o =>
    obtain ⟨oc, od, dt, sl⟩ := o
    cases oc with
    | none =>
      cases od with
      | some d => cases dt <;> cases h
      | none =>
        cases dt with
        | fields vs =>
          obtain ⟨h1, h2⟩ := He.ba (show (vs.isEmpty && sl.isEmpty) = true from h)
          rw [Array.isEmpty_iff.mp h1, Array.isEmpty_iff.mp h2]
        | _ => cases h
    | _ => cases od <;> cases dt <;> cases h
section
variable (fa : List He.Fa) (fn : List He.DefD) (ex : PySem.W.Frag → Bool)
def obsK (K : PySem.W.Frag) : He.AlD :=
  ((fa.all fun f => f.ok K) && ((fn.all fun d => d.ok K) && (ex K && (PySem.W.codeHdIn K (askC K) (askP K) && (K.lookup (askP K)).isNone))), fn.map fun d => He.fnW K d.at_)
def obsP (g : Addr → Option Obj) : Bool × He.AlD := (emptyB (g (askP (He.frG g (asP g)))), obsK fa fn ex (He.frG g (asP g)))
def saysP (h : Heap) : Prop := ∃ K : PySem.W.Frag, K.In h ∧ h.get? (askP K) = some { cls := .none, data := .fields #[] } ∧ obsK fa fn ex K = (true, fn.map He.DefD.val)
def hookP : PySem.W.Hook where
  α := Bool × He.AlD
  obs := fun s => obsP fa fn ex s.heap.get?
  val := fun _ => (true, (true, fn.map He.DefD.val))
  says := fun _ h => saysP fa fn ex h
  of := fun _ _ e => by
    have e1 := congrArg (fun z : Bool × He.AlD => z.1) e
    have e2 := congrArg (fun z : Bool × He.AlD => z.2) e
    exact ⟨_, He.frG_in, emptyB_eq e1, e2⟩
  keeps := fun _ _ _ ⟨K, hK, t, c⟩ k => ⟨K, PySem.W.Frag.In.keeps hK k, k _ _ t, c⟩
end
end Kp
/-! the text by places, the head's facts: printed by gen1.py -/
namespace Kp
open PySem PySem.Spec PyProof.Rows L2
def top (i : Nat) : Stmt := PySem.Challenge.pw_halvedpictures_k92_whole_few_numbers_of.main.body.getD i (.Pass ⟨0, 0, 0, 0⟩)
abbrev s_is_whole : Stmt := top 18
abbrev s_is_row : Stmt := top 19
abbrev s_are_rows : Stmt := top 20
abbrev s_Field_init : Stmt := inClass (top 22) 0
abbrev s_Field_height : Stmt := inClass (top 22) 1
abbrev s_Field_width : Stmt := inClass (top 22) 2
abbrev s_Field_rows : Stmt := inClass (top 22) 3
abbrev s_Field_flat : Stmt := inClass (top 22) 4
abbrev s_Field_places : Stmt := inClass (top 22) 5
abbrev s_Field_is_place : Stmt := inClass (top 22) 6
abbrev s_Field_at : Stmt := inClass (top 22) 7
abbrev s_need_field : Stmt := top 23
abbrev s_need_picture : Stmt := top 27
abbrev s_need_numbers : Stmt := top 28
abbrev s_rows_halved : Stmt := top 29
abbrev s_rows_back : Stmt := top 30
abbrev s_pillars_halved : Stmt := top 31
abbrev s_pillars_back : Stmt := top 32
abbrev s_step_halved : Stmt := top 33
abbrev s_step_back : Stmt := top 34
abbrev s_halved : Stmt := top 35
abbrev s_put_back : Stmt := top 36
abbrev s_coarse : Stmt := top 37
abbrev s_pairs_of : Stmt := top 40
abbrev s_Sums_word : Stmt := inClass (top 41) 0
abbrev s_Sums_parted : Stmt := inClass (top 41) 3
abbrev s_Sums_joined : Stmt := inClass (top 41) 4
abbrev s_Halves_word : Stmt := inClass (top 42) 0
abbrev s_Halves_parted : Stmt := inClass (top 42) 1
abbrev s_Halves_joined : Stmt := inClass (top 42) 2
abbrev s_half_sums : Stmt := top 43
abbrev s_half_row : Stmt := top 44
abbrev s_nearest : Stmt := top 46
abbrev s_Guessed_word : Stmt := inClass (top 47) 0
abbrev s_Guessed_parted : Stmt := inClass (top 47) 1
abbrev s_Guessed_joined : Stmt := inClass (top 47) 2
abbrev s_slopes : Stmt := top 48
abbrev s_Leaning_word : Stmt := inClass (top 49) 0
abbrev s_Leaning_parted : Stmt := inClass (top 49) 1
abbrev s_Leaning_joined : Stmt := inClass (top 49) 2
abbrev s_words : Stmt := top 50
abbrev s_rule_of : Stmt := top 51
abbrev s_Spread_init : Stmt := inClass (top 53) 0
abbrev s_Spread_sum_places : Stmt := inClass (top 53) 1
abbrev s_Spread_difference_places : Stmt := inClass (top 53) 2
abbrev s_Spread_first_needs : Stmt := inClass (top 53) 3
abbrev s_Spread_second_needs : Stmt := inClass (top 53) 4
abbrev s_Spread_spread_at : Stmt := inClass (top 53) 5
abbrev s_Spread_back_at : Stmt := inClass (top 53) 6
abbrev s_LeaningSpread_near_sums : Stmt := inClass (top 54) 0
abbrev s_LeaningSpread_difference_places : Stmt := inClass (top 54) 1
abbrev s_LeaningSpread_first_needs : Stmt := inClass (top 54) 2
abbrev s_GuessedSpread_near_differences : Stmt := inClass (top 55) 0
abbrev s_GuessedSpread_sum_places : Stmt := inClass (top 55) 1
abbrev s_GuessedSpread_difference_places : Stmt := inClass (top 55) 2
abbrev s_GuessedSpread_first_needs : Stmt := inClass (top 55) 3
abbrev s_GuessedSpread_second_needs : Stmt := inClass (top 55) 4
abbrev s_spread_by : Stmt := top 56
abbrev s_need_place : Stmt := top 58
abbrev s_in_rows : Stmt := top 59
abbrev s_in_pillars : Stmt := top 60
abbrev s_spread_tables : Stmt := top 61
abbrev s_back_tables : Stmt := top 62
abbrev s_hangs : Stmt := top 63
abbrev s_needs_behind : Stmt := top 64
abbrev s_needs : Stmt := top 65
abbrev s_asked_field : Stmt := top 67
abbrev s_number_from : Stmt := top 68
abbrev s_place_from : Stmt := top 69
abbrev s_area_from : Stmt := top 70
abbrev s_is_size : Stmt := top 72
abbrev s_corners_of : Stmt := top 73
abbrev s_Plan_init : Stmt := inClass (top 74) 0
abbrev s_Plan_height : Stmt := inClass (top 74) 1
abbrev s_Plan_width : Stmt := inClass (top 74) 2
abbrev s_Plan_rule : Stmt := inClass (top 74) 3
abbrev s_Plan_way : Stmt := inClass (top 74) 4
abbrev s_Plan_steps : Stmt := inClass (top 74) 5
abbrev s_Plan_corner : Stmt := inClass (top 74) 6
abbrev s_Plan_step_parts : Stmt := inClass (top 74) 7
abbrev s_Plan_parts : Stmt := inClass (top 74) 8
abbrev s_Plan_order : Stmt := inClass (top 74) 9
abbrev s_check_of : Stmt := top 77
abbrev s_head_of : Stmt := top 78
abbrev s_planes_of : Stmt := top 79
abbrev s_small_number : Stmt := top 81
abbrev s_plan_told : Stmt := top 82
abbrev s_head_in : Stmt := top 83
abbrev s_Reading_init : Stmt := inClass (top 84) 0
abbrev s_Reading_plan : Stmt := inClass (top 84) 1
abbrev s_Reading_numbers : Stmt := inClass (top 84) 4
abbrev s_Reading_unread : Stmt := inClass (top 84) 5
abbrev s_Reading_laid : Stmt := inClass (top 84) 6
abbrev s_Reading_sign_of : Stmt := inClass (top 84) 7
abbrev s_Reading_read_planes : Stmt := inClass (top 84) 8
abbrev s_Reading_read_plane : Stmt := inClass (top 84) 9
abbrev s_Reading_read_check : Stmt := inClass (top 84) 10
abbrev s_read_signs : Stmt := top 85
abbrev s_plane_text : Stmt := top 87
abbrev s_signs : Stmt := top 88
abbrev s_pairs_joined : Stmt := top 91
abbrev s_SumCarrier_carried_on : Stmt := inClass (top 92) 2
abbrev s_HalfCarrier_carried_on : Stmt := inClass (top 93) 1
abbrev s_GuessCarrier_carried_on : Stmt := inClass (top 94) 1
abbrev s_LeanCarrier_carried_on : Stmt := inClass (top 95) 1
abbrev s_carrier_of : Stmt := top 96
abbrev s_need_errors : Stmt := top 99
abbrev s_along_rows : Stmt := top 100
abbrev s_along_pillars : Stmt := top 101
abbrev s_carried_rows : Stmt := top 102
abbrev s_worst : Stmt := top 103
abbrev s_law_cell : Stmt := top 105
abbrev s_law_box : Stmt := top 106
abbrev s_law_take : Stmt := top 107
abbrev s_law_way : Stmt := top 108
abbrev s_law_value : Stmt := top 109
abbrev s_law_rows : Stmt := top 110
abbrev s_law_whole : Stmt := top 111
abbrev s_law_shape : Stmt := top 112
abbrev s_law_asked : Stmt := top 113
abbrev s_law_among : Stmt := top 114
abbrev s_law_values_right : Stmt := top 115
abbrev s_law_numbers_right : Stmt := top 116
abbrev s_law_areas_right : Stmt := top 117
abbrev s_law : Stmt := top 118
/-! ### scopes -/
theorem sc_is_whole : FnScope ["thing", "low", "high"] ["thing", "low", "high"] (defScope s_is_whole) := ⟨rfl, rfl, rfl, by decide +kernel, rfl, by decide +kernel, by decide +kernel⟩
theorem sc_is_row : FnScope ["thing", "least", "number"] ["thing", "least"] (defScope s_is_row) := ⟨rfl, rfl, rfl, by decide +kernel, rfl, by decide +kernel, by decide +kernel⟩
theorem sc_are_rows : FnScope ["thing", "row"] ["thing"] (defScope s_are_rows) := ⟨rfl, rfl, rfl, by decide +kernel, rfl, by decide +kernel, by decide +kernel⟩
theorem sc_Field_init : FnScope ["self", "rows", "row"] ["self", "rows"] (defScope s_Field_init) := ⟨rfl, rfl, rfl, by decide +kernel, rfl, by decide +kernel, by decide +kernel⟩
theorem sc_Field_height : FnScope ["self"] ["self"] (defScope s_Field_height) := ⟨rfl, rfl, rfl, by decide +kernel, rfl, by decide +kernel, by decide +kernel⟩
theorem sc_Field_width : FnScope ["self"] ["self"] (defScope s_Field_width) := ⟨rfl, rfl, rfl, by decide +kernel, rfl, by decide +kernel, by decide +kernel⟩
theorem sc_Field_rows : FnScope ["self", "row"] ["self"] (defScope s_Field_rows) := ⟨rfl, rfl, rfl, by decide +kernel, rfl, by decide +kernel, by decide +kernel⟩
theorem sc_Field_flat : FnScope ["self", "found", "row"] ["self"] (defScope s_Field_flat) := ⟨rfl, rfl, rfl, by decide +kernel, rfl, by decide +kernel, by decide +kernel⟩
theorem sc_Field_places : FnScope ["self", "found", "y", "x"] ["self"] (defScope s_Field_places) := ⟨rfl, rfl, rfl, by decide +kernel, rfl, by decide +kernel, by decide +kernel⟩
theorem sc_Field_is_place : FnScope ["self", "thing"] ["self", "thing"] (defScope s_Field_is_place) := ⟨rfl, rfl, rfl, by decide +kernel, rfl, by decide +kernel, by decide +kernel⟩
theorem sc_Field_at : FnScope ["self", "place"] ["self", "place"] (defScope s_Field_at) := ⟨rfl, rfl, rfl, by decide +kernel, rfl, by decide +kernel, by decide +kernel⟩
theorem sc_need_field : FnScope ["thing", "size", "most", "place"] ["thing", "size", "most"] (defScope s_need_field) := ⟨rfl, rfl, rfl, by decide +kernel, rfl, by decide +kernel, by decide +kernel⟩
theorem sc_need_picture : FnScope ["plan", "thing"] ["plan", "thing"] (defScope s_need_picture) := ⟨rfl, rfl, rfl, by decide +kernel, rfl, by decide +kernel, by decide +kernel⟩
theorem sc_need_numbers : FnScope ["plan", "thing"] ["plan", "thing"] (defScope s_need_numbers) := ⟨rfl, rfl, rfl, by decide +kernel, rfl, by decide +kernel, by decide +kernel⟩
theorem sc_rows_halved : FnScope ["rule", "rows", "corner", "y", "sums", "differences"] ["rule", "rows", "corner"] (defScope s_rows_halved) := ⟨rfl, rfl, rfl, by decide +kernel, rfl, by decide +kernel, by decide +kernel⟩
theorem sc_rows_back : FnScope ["rule", "rows", "corner", "many", "y"] ["rule", "rows", "corner"] (defScope s_rows_back) := ⟨rfl, rfl, rfl, by decide +kernel, rfl, by decide +kernel, by decide +kernel⟩
theorem sc_pillars_halved : FnScope ["rule", "rows", "corner", "x", "sums", "differences", "y", "number"] ["rule", "rows", "corner"] (defScope s_pillars_halved) := ⟨rfl, rfl, rfl, by decide +kernel, rfl, by decide +kernel, by decide +kernel⟩
theorem sc_pillars_back : FnScope ["rule", "rows", "corner", "many", "x", "sums", "differences", "y", "number"] ["rule", "rows", "corner"] (defScope s_pillars_back) := ⟨rfl, rfl, rfl, by decide +kernel, rfl, by decide +kernel, by decide +kernel⟩
theorem sc_step_halved : FnScope ["plan", "rows", "step", "letter"] ["plan", "rows", "step"] (defScope s_step_halved) := ⟨rfl, rfl, rfl, by decide +kernel, rfl, by decide +kernel, by decide +kernel⟩
theorem sc_step_back : FnScope ["plan", "rows", "step", "letter"] ["plan", "rows", "step"] (defScope s_step_back) := ⟨rfl, rfl, rfl, by decide +kernel, rfl, by decide +kernel, by decide +kernel⟩
theorem sc_halved : FnScope ["plan", "picture", "rows", "step"] ["plan", "picture"] (defScope s_halved) := ⟨rfl, rfl, rfl, by decide +kernel, rfl, by decide +kernel, by decide +kernel⟩
theorem sc_put_back : FnScope ["plan", "numbers"] ["plan", "numbers"] (defScope s_put_back) := ⟨rfl, rfl, rfl, by decide +kernel, rfl, by decide +kernel, by decide +kernel⟩
theorem sc_coarse : FnScope ["plan", "numbers", "step", "rows", "at", "height", "width", "row"] ["plan", "numbers", "step"] (defScope s_coarse) := ⟨rfl, rfl, rfl, by decide +kernel, rfl, by decide +kernel, by decide +kernel⟩
theorem sc_pairs_of : FnScope ["row", "k"] ["row"] (defScope s_pairs_of) := ⟨rfl, rfl, rfl, by decide +kernel, rfl, by decide +kernel, by decide +kernel⟩
theorem sc_Sums_word : FnScope ["self"] ["self"] (defScope s_Sums_word) := ⟨rfl, rfl, rfl, by decide +kernel, rfl, by decide +kernel, by decide +kernel⟩
theorem sc_Sums_parted : FnScope ["self", "row", "sums", "one", "other"] ["self", "row"] (defScope s_Sums_parted) := ⟨rfl, rfl, rfl, by decide +kernel, rfl, by decide +kernel, by decide +kernel⟩
theorem sc_Sums_joined : FnScope ["self", "sums", "differences", "row", "total", "difference", "one"] ["self", "sums", "differences"] (defScope s_Sums_joined) := ⟨rfl, rfl, rfl, by decide +kernel, rfl, by decide +kernel, by decide +kernel⟩
theorem sc_Halves_word : FnScope ["self"] ["self"] (defScope s_Halves_word) := ⟨rfl, rfl, rfl, by decide +kernel, rfl, by decide +kernel, by decide +kernel⟩
theorem sc_Halves_parted : FnScope ["self", "row", "one", "other"] ["self", "row"] (defScope s_Halves_parted) := ⟨rfl, rfl, rfl, by decide +kernel, rfl, by decide +kernel, by decide +kernel⟩
theorem sc_Halves_joined : FnScope ["self", "sums", "differences"] ["self", "sums", "differences"] (defScope s_Halves_joined) := ⟨rfl, rfl, rfl, by decide +kernel, rfl, by decide +kernel, by decide +kernel⟩
theorem sc_half_sums : FnScope ["row", "sums", "one", "other"] ["row"] (defScope s_half_sums) := ⟨rfl, rfl, rfl, by decide +kernel, rfl, by decide +kernel, by decide +kernel⟩
theorem sc_half_row : FnScope ["sums", "differences", "row", "total", "difference", "one"] ["sums", "differences"] (defScope s_half_row) := ⟨rfl, rfl, rfl, by decide +kernel, rfl, by decide +kernel, by decide +kernel⟩
theorem sc_nearest : FnScope ["row", "at"] ["row", "at"] (defScope s_nearest) := ⟨rfl, rfl, rfl, by decide +kernel, rfl, by decide +kernel, by decide +kernel⟩
theorem sc_Guessed_word : FnScope ["self"] ["self"] (defScope s_Guessed_word) := ⟨rfl, rfl, rfl, by decide +kernel, rfl, by decide +kernel, by decide +kernel⟩
theorem sc_Guessed_parted : FnScope ["self", "row", "firsts", "differences", "at", "second", "sums", "one"] ["self", "row"] (defScope s_Guessed_parted) := ⟨rfl, rfl, rfl, by decide +kernel, rfl, by decide +kernel, by decide +kernel⟩
theorem sc_Guessed_joined : FnScope ["self", "sums", "differences", "firsts", "at", "total", "row", "one"] ["self", "sums", "differences"] (defScope s_Guessed_joined) := ⟨rfl, rfl, rfl, by decide +kernel, rfl, by decide +kernel, by decide +kernel⟩
theorem sc_slopes : FnScope ["sums", "many", "found", "at", "ahead", "behind"] ["sums", "many"] (defScope s_slopes) := ⟨rfl, rfl, rfl, by decide +kernel, rfl, by decide +kernel, by decide +kernel⟩
theorem sc_Leaning_word : FnScope ["self"] ["self"] (defScope s_Leaning_word) := ⟨rfl, rfl, rfl, by decide +kernel, rfl, by decide +kernel, by decide +kernel⟩
theorem sc_Leaning_parted : FnScope ["self", "row", "sums", "pairs", "guesses", "guess", "one", "other"] ["self", "row"] (defScope s_Leaning_parted) := ⟨rfl, rfl, rfl, by decide +kernel, rfl, by decide +kernel, by decide +kernel⟩
theorem sc_Leaning_joined : FnScope ["self", "sums", "differences", "guesses", "difference", "guess"] ["self", "sums", "differences"] (defScope s_Leaning_joined) := ⟨rfl, rfl, rfl, by decide +kernel, rfl, by decide +kernel, by decide +kernel⟩
theorem sc_words : FnScope [] [] (defScope s_words) := ⟨rfl, rfl, rfl, by decide +kernel, rfl, by decide +kernel, by decide +kernel⟩
theorem sc_rule_of : FnScope ["word"] ["word"] (defScope s_rule_of) := ⟨rfl, rfl, rfl, by decide +kernel, rfl, by decide +kernel, by decide +kernel⟩
theorem sc_Spread_init : FnScope ["self", "size"] ["self", "size"] (defScope s_Spread_init) := ⟨rfl, rfl, rfl, by decide +kernel, rfl, by decide +kernel, by decide +kernel⟩
theorem sc_Spread_sum_places : FnScope ["self", "at"] ["self", "at"] (defScope s_Spread_sum_places) := ⟨rfl, rfl, rfl, by decide +kernel, rfl, by decide +kernel, by decide +kernel⟩
theorem sc_Spread_difference_places : FnScope ["self", "at"] ["self", "at"] (defScope s_Spread_difference_places) := ⟨rfl, rfl, rfl, by decide +kernel, rfl, by decide +kernel, by decide +kernel⟩
theorem sc_Spread_first_needs : FnScope ["self", "at"] ["self", "at"] (defScope s_Spread_first_needs) := ⟨rfl, rfl, rfl, by decide +kernel, rfl, by decide +kernel, by decide +kernel⟩
theorem sc_Spread_second_needs : FnScope ["self", "at"] ["self", "at"] (defScope s_Spread_second_needs) := ⟨rfl, rfl, rfl, by decide +kernel, rfl, by decide +kernel, by decide +kernel⟩
theorem sc_Spread_spread_at : FnScope ["self", "place"] ["self", "place"] (defScope s_Spread_spread_at) := ⟨rfl, rfl, rfl, by decide +kernel, rfl, by decide +kernel, by decide +kernel⟩
theorem sc_Spread_back_at : FnScope ["self", "place"] ["self", "place"] (defScope s_Spread_back_at) := ⟨rfl, rfl, rfl, by decide +kernel, rfl, by decide +kernel, by decide +kernel⟩
theorem sc_LeaningSpread_near_sums : FnScope ["self", "at", "near"] ["self", "at"] (defScope s_LeaningSpread_near_sums) := ⟨rfl, rfl, rfl, by decide +kernel, rfl, by decide +kernel, by decide +kernel⟩
theorem sc_LeaningSpread_difference_places : FnScope ["self", "at", "found", "near"] ["self", "at"] (defScope s_LeaningSpread_difference_places) := ⟨rfl, rfl, rfl, by decide +kernel, rfl, by decide +kernel, by decide +kernel⟩
theorem sc_LeaningSpread_first_needs : FnScope ["self", "at"] ["self", "at"] (defScope s_LeaningSpread_first_needs) := ⟨rfl, rfl, rfl, by decide +kernel, rfl, by decide +kernel, by decide +kernel⟩
theorem sc_GuessedSpread_near_differences : FnScope ["self", "at", "near"] ["self", "at"] (defScope s_GuessedSpread_near_differences) := ⟨rfl, rfl, rfl, by decide +kernel, rfl, by decide +kernel, by decide +kernel⟩
theorem sc_GuessedSpread_sum_places : FnScope ["self", "at", "found", "near"] ["self", "at"] (defScope s_GuessedSpread_sum_places) := ⟨rfl, rfl, rfl, by decide +kernel, rfl, by decide +kernel, by decide +kernel⟩
theorem sc_GuessedSpread_difference_places : FnScope ["self", "at", "place"] ["self", "at"] (defScope s_GuessedSpread_difference_places) := ⟨rfl, rfl, rfl, by decide +kernel, rfl, by decide +kernel, by decide +kernel⟩
theorem sc_GuessedSpread_first_needs : FnScope ["self", "at", "near"] ["self", "at"] (defScope s_GuessedSpread_first_needs) := ⟨rfl, rfl, rfl, by decide +kernel, rfl, by decide +kernel, by decide +kernel⟩
theorem sc_GuessedSpread_second_needs : FnScope ["self", "at", "found"] ["self", "at"] (defScope s_GuessedSpread_second_needs) := ⟨rfl, rfl, rfl, by decide +kernel, rfl, by decide +kernel, by decide +kernel⟩
theorem sc_spread_by : FnScope ["word", "size"] ["word", "size"] (defScope s_spread_by) := ⟨rfl, rfl, rfl, by decide +kernel, rfl, by decide +kernel, by decide +kernel⟩
theorem sc_need_place : FnScope ["size", "thing"] ["size", "thing"] (defScope s_need_place) := ⟨rfl, rfl, rfl, by decide +kernel, rfl, by decide +kernel, by decide +kernel⟩
theorem sc_in_rows : FnScope ["places", "corner", "tables", "found", "y", "x", "other"] ["places", "corner", "tables"] (defScope s_in_rows) := ⟨rfl, rfl, rfl, by decide +kernel, rfl, by decide +kernel, by decide +kernel⟩
theorem sc_in_pillars : FnScope ["places", "corner", "tables", "found", "y", "x", "other"] ["places", "corner", "tables"] (defScope s_in_pillars) := ⟨rfl, rfl, rfl, by decide +kernel, rfl, by decide +kernel, by decide +kernel⟩
theorem sc_spread_tables : FnScope ["word", "size", "made", "place"] ["word", "size"] (defScope s_spread_tables) := ⟨rfl, rfl, rfl, by decide +kernel, rfl, by decide +kernel, by decide +kernel⟩
theorem sc_back_tables : FnScope ["word", "size", "made", "place"] ["word", "size"] (defScope s_back_tables) := ⟨rfl, rfl, rfl, by decide +kernel, rfl, by decide +kernel, by decide +kernel⟩
theorem sc_hangs : FnScope ["plan", "place", "word", "places", "step", "corner", "letter"] ["plan", "place"] (defScope s_hangs) := ⟨rfl, rfl, rfl, by decide +kernel, rfl, by decide +kernel, by decide +kernel⟩
theorem sc_needs_behind : FnScope ["plan", "step", "places", "word", "found", "at", "corner", "letter", "place"] ["plan", "step", "places"] (defScope s_needs_behind) := ⟨rfl, rfl, rfl, by decide +kernel, rfl, by decide +kernel, by decide +kernel⟩
theorem sc_needs : FnScope ["plan", "place"] ["plan", "place"] (defScope s_needs) := ⟨rfl, rfl, rfl, by decide +kernel, rfl, by decide +kernel, by decide +kernel⟩
theorem sc_asked_field : FnScope ["plan", "ask", "places", "rows", "place", "row"] ["plan", "ask", "places"] (defScope s_asked_field) := ⟨rfl, rfl, rfl, by decide +kernel, rfl, by decide +kernel, by decide +kernel⟩
theorem sc_number_from : FnScope ["plan", "ask", "place"] ["plan", "ask", "place"] (defScope s_number_from) := ⟨rfl, rfl, rfl, by decide +kernel, rfl, by decide +kernel, by decide +kernel⟩
theorem sc_place_from : FnScope ["plan", "ask", "place"] ["plan", "ask", "place"] (defScope s_place_from) := ⟨rfl, rfl, rfl, by decide +kernel, rfl, by decide +kernel, by decide +kernel⟩
theorem sc_area_from : FnScope ["plan", "ask", "top", "left", "height", "width", "places", "y", "field", "row", "x"] ["plan", "ask", "top", "left", "height", "width"] (defScope s_area_from) := ⟨rfl, rfl, rfl, by decide +kernel, rfl, by decide +kernel, by decide +kernel⟩
theorem sc_is_size : FnScope ["height", "width"] ["height", "width"] (defScope s_is_size) := ⟨rfl, rfl, rfl, by decide +kernel, rfl, by decide +kernel, by decide +kernel⟩
theorem sc_corners_of : FnScope ["height", "width", "way", "found", "letter"] ["height", "width", "way"] (defScope s_corners_of) := ⟨rfl, rfl, rfl, by decide +kernel, rfl, by decide +kernel, by decide +kernel⟩
theorem sc_Plan_init : FnScope ["self", "height", "width", "word", "way", "corners", "letter"] ["self", "height", "width", "word", "way"] (defScope s_Plan_init) := ⟨rfl, rfl, rfl, by decide +kernel, rfl, by decide +kernel, by decide +kernel⟩
theorem sc_Plan_height : FnScope ["self"] ["self"] (defScope s_Plan_height) := ⟨rfl, rfl, rfl, by decide +kernel, rfl, by decide +kernel, by decide +kernel⟩
theorem sc_Plan_width : FnScope ["self"] ["self"] (defScope s_Plan_width) := ⟨rfl, rfl, rfl, by decide +kernel, rfl, by decide +kernel, by decide +kernel⟩
theorem sc_Plan_rule : FnScope ["self"] ["self"] (defScope s_Plan_rule) := ⟨rfl, rfl, rfl, by decide +kernel, rfl, by decide +kernel, by decide +kernel⟩
theorem sc_Plan_way : FnScope ["self"] ["self"] (defScope s_Plan_way) := ⟨rfl, rfl, rfl, by decide +kernel, rfl, by decide +kernel, by decide +kernel⟩
theorem sc_Plan_steps : FnScope ["self"] ["self"] (defScope s_Plan_steps) := ⟨rfl, rfl, rfl, by decide +kernel, rfl, by decide +kernel, by decide +kernel⟩
theorem sc_Plan_corner : FnScope ["self", "step"] ["self", "step"] (defScope s_Plan_corner) := ⟨rfl, rfl, rfl, by decide +kernel, rfl, by decide +kernel, by decide +kernel⟩
theorem sc_Plan_step_parts : FnScope ["self", "step", "height", "width", "low", "right", "letter", "found"] ["self", "step"] (defScope s_Plan_step_parts) := ⟨rfl, rfl, rfl, by decide +kernel, rfl, by decide +kernel, by decide +kernel⟩
theorem sc_Plan_parts : FnScope ["self", "height", "width", "found", "step"] ["self"] (defScope s_Plan_parts) := ⟨rfl, rfl, rfl, by decide +kernel, rfl, by decide +kernel, by decide +kernel⟩
theorem sc_Plan_order : FnScope ["self", "found", "step", "word", "top", "left", "height", "width", "y", "x"] ["self"] (defScope s_Plan_order) := ⟨rfl, rfl, rfl, by decide +kernel, rfl, by decide +kernel, by decide +kernel⟩
theorem sc_check_of : FnScope ["text", "found", "sign"] ["text"] (defScope s_check_of) := ⟨rfl, rfl, rfl, by decide +kernel, rfl, by decide +kernel, by decide +kernel⟩
theorem sc_head_of : FnScope ["plan", "planes", "way", "text"] ["plan", "planes"] (defScope s_head_of) := ⟨rfl, rfl, rfl, by decide +kernel, rfl, by decide +kernel, by decide +kernel⟩
theorem sc_planes_of : FnScope ["plan", "numbers", "number"] ["plan", "numbers"] (defScope s_planes_of) := ⟨rfl, rfl, rfl, by decide +kernel, rfl, by decide +kernel, by decide +kernel⟩
theorem sc_small_number : FnScope ["word", "most", "sign"] ["word", "most"] (defScope s_small_number) := ⟨rfl, rfl, rfl, by decide +kernel, rfl, by decide +kernel, by decide +kernel⟩
theorem sc_plan_told : FnScope ["words", "height", "width", "way", "found"] ["words"] (defScope s_plan_told) := ⟨rfl, rfl, rfl, by decide +kernel, rfl, by decide +kernel, by decide +kernel⟩
theorem sc_head_in : FnScope ["text", "head", "mark", "rest", "words", "plan"] ["text"] (defScope s_head_in) := ⟨rfl, rfl, rfl, by decide +kernel, rfl, by decide +kernel, by decide +kernel⟩
theorem sc_Reading_init : FnScope ["self", "text", "design", "many", "begins"] ["self", "text", "design", "many", "begins"] (defScope s_Reading_init) := ⟨rfl, rfl, rfl, by decide +kernel, rfl, by decide +kernel, by decide +kernel⟩
theorem sc_Reading_plan : FnScope ["self"] ["self"] (defScope s_Reading_plan) := ⟨rfl, rfl, rfl, by decide +kernel, rfl, by decide +kernel, by decide +kernel⟩
theorem sc_Reading_numbers : FnScope ["self", "told", "number", "below"] ["self"] (defScope s_Reading_numbers) := ⟨rfl, rfl, rfl, by decide +kernel, rfl, by decide +kernel, by decide +kernel⟩
theorem sc_Reading_unread : FnScope ["self", "many"] ["self"] (defScope s_Reading_unread) := ⟨rfl, rfl, rfl, by decide +kernel, rfl, by decide +kernel, by decide +kernel⟩
theorem sc_Reading_laid : FnScope ["self", "told", "rows", "place", "number", "row"] ["self", "told"] (defScope s_Reading_laid) := ⟨rfl, rfl, rfl, by decide +kernel, rfl, by decide +kernel, by decide +kernel⟩
theorem sc_Reading_sign_of : FnScope ["self", "allowed", "sign"] ["self", "allowed"] (defScope s_Reading_sign_of) := ⟨rfl, rfl, rfl, by decide +kernel, rfl, by decide +kernel, by decide +kernel⟩
theorem sc_Reading_read_planes : FnScope ["self", "power", "begins"] ["self"] (defScope s_Reading_read_planes) := ⟨rfl, rfl, rfl, by decide +kernel, rfl, by decide +kernel, by decide +kernel⟩
theorem sc_Reading_read_plane : FnScope ["self", "power", "at", "sign", "ahead"] ["self", "power"] (defScope s_Reading_read_plane) := ⟨rfl, rfl, rfl, by decide +kernel, rfl, by decide +kernel, by decide +kernel⟩
theorem sc_Reading_read_check : FnScope ["self", "begins", "place", "turn"] ["self", "begins"] (defScope s_Reading_read_check) := ⟨rfl, rfl, rfl, by decide +kernel, rfl, by decide +kernel, by decide +kernel⟩
theorem sc_read_signs : FnScope ["text", "told"] ["text"] (defScope s_read_signs) := ⟨rfl, rfl, rfl, by decide +kernel, rfl, by decide +kernel, by decide +kernel⟩
theorem sc_plane_text : FnScope ["numbers", "power", "found", "number", "many"] ["numbers", "power"] (defScope s_plane_text) := ⟨rfl, rfl, rfl, by decide +kernel, rfl, by decide +kernel, by decide +kernel⟩
theorem sc_signs : FnScope ["plan", "numbers", "planes", "ordered", "text", "power", "plane", "place"] ["plan", "numbers"] (defScope s_signs) := ⟨rfl, rfl, rfl, by decide +kernel, rfl, by decide +kernel, by decide +kernel⟩
theorem sc_pairs_joined : FnScope ["sums", "differences", "row", "total", "difference"] ["sums", "differences"] (defScope s_pairs_joined) := ⟨rfl, rfl, rfl, by decide +kernel, rfl, by decide +kernel, by decide +kernel⟩
theorem sc_SumCarrier_carried_on : FnScope ["self", "sums", "differences", "row", "total", "difference"] ["self", "sums", "differences"] (defScope s_SumCarrier_carried_on) := ⟨rfl, rfl, rfl, by decide +kernel, rfl, by decide +kernel, by decide +kernel⟩
theorem sc_HalfCarrier_carried_on : FnScope ["self", "sums", "differences"] ["self", "sums", "differences"] (defScope s_HalfCarrier_carried_on) := ⟨rfl, rfl, rfl, by decide +kernel, rfl, by decide +kernel, by decide +kernel⟩
theorem sc_GuessCarrier_carried_on : FnScope ["self", "sums", "differences", "firsts", "at", "total", "row", "one"] ["self", "sums", "differences"] (defScope s_GuessCarrier_carried_on) := ⟨rfl, rfl, rfl, by decide +kernel, rfl, by decide +kernel, by decide +kernel⟩
theorem sc_LeanCarrier_carried_on : FnScope ["self", "sums", "differences", "more", "at", "difference", "around"] ["self", "sums", "differences"] (defScope s_LeanCarrier_carried_on) := ⟨rfl, rfl, rfl, by decide +kernel, rfl, by decide +kernel, by decide +kernel⟩
theorem sc_carrier_of : FnScope ["word", "known"] ["word"] (defScope s_carrier_of) := ⟨rfl, rfl, rfl, by decide +kernel, rfl, by decide +kernel, by decide +kernel⟩
theorem sc_need_errors : FnScope ["plan", "thing", "place"] ["plan", "thing"] (defScope s_need_errors) := ⟨rfl, rfl, rfl, by decide +kernel, rfl, by decide +kernel, by decide +kernel⟩
theorem sc_along_rows : FnScope ["carrier", "rows", "corner", "many", "y"] ["carrier", "rows", "corner"] (defScope s_along_rows) := ⟨rfl, rfl, rfl, by decide +kernel, rfl, by decide +kernel, by decide +kernel⟩
theorem sc_along_pillars : FnScope ["carrier", "rows", "corner", "many", "x", "pillar", "y", "error"] ["carrier", "rows", "corner"] (defScope s_along_pillars) := ⟨rfl, rfl, rfl, by decide +kernel, rfl, by decide +kernel, by decide +kernel⟩
theorem sc_carried_rows : FnScope ["plan", "rows", "carrier", "step"] ["plan", "rows"] (defScope s_carried_rows) := ⟨rfl, rfl, rfl, by decide +kernel, rfl, by decide +kernel, by decide +kernel⟩
theorem sc_worst : FnScope ["plan", "errors", "rows"] ["plan", "errors"] (defScope s_worst) := ⟨rfl, rfl, rfl, by decide +kernel, rfl, by decide +kernel, by decide +kernel⟩
theorem sc_law_cell : FnScope ["_law_script", "_law_k"] ["_law_script", "_law_k"] (defScope s_law_cell) := ⟨rfl, rfl, rfl, by decide +kernel, rfl, by decide +kernel, by decide +kernel⟩
theorem sc_law_box : FnScope ["_law_cell_here"] ["_law_cell_here"] (defScope s_law_box) := ⟨rfl, rfl, rfl, by decide +kernel, rfl, by decide +kernel, by decide +kernel⟩
theorem sc_law_take : FnScope ["_law_box_here", "_law_many", "_law_digit", "_law_far", "_law_number"] ["_law_box_here", "_law_many"] (defScope s_law_take) := ⟨rfl, rfl, rfl, by decide +kernel, rfl, by decide +kernel, by decide +kernel⟩
theorem sc_law_way : FnScope ["_law_box_here", "_law_size", "_law_high", "_law_wide", "_law_way_here", "_law_k", "_law_some", "_law_letter"] ["_law_box_here", "_law_size"] (defScope s_law_way) := ⟨rfl, rfl, rfl, by decide +kernel, rfl, by decide +kernel, by decide +kernel⟩
theorem sc_law_value : FnScope ["_law_box_here", "_law_way_here"] ["_law_box_here"] (defScope s_law_value) := ⟨rfl, rfl, rfl, by decide +kernel, rfl, by decide +kernel, by decide +kernel⟩
theorem sc_law_rows : FnScope ["_law_box_here", "_law_size", "_law_seed", "_law_most", "_law_rows_here", "_law_y", "_law_some", "_law_x", "_law_number"] ["_law_box_here", "_law_size"] (defScope s_law_rows) := ⟨rfl, rfl, rfl, by decide +kernel, rfl, by decide +kernel, by decide +kernel⟩
theorem sc_law_whole : FnScope ["_law_found"] ["_law_found"] (defScope s_law_whole) := ⟨rfl, rfl, rfl, by decide +kernel, rfl, by decide +kernel, by decide +kernel⟩
theorem sc_law_shape : FnScope ["_law_box_here", "_law_way_here"] ["_law_box_here"] (defScope s_law_shape) := ⟨rfl, rfl, rfl, by decide +kernel, rfl, by decide +kernel, by decide +kernel⟩
theorem sc_law_asked : FnScope ["_law_plan", "_law_rows_here", "_law_told", "_law_answered"] ["_law_plan", "_law_rows_here", "_law_told"] (defScope s_law_asked) := ⟨rfl, rfl, rfl, by decide +kernel, rfl, by decide +kernel, by decide +kernel⟩
theorem sc_law_among : FnScope ["_law_told", "_law_places", "_law_place"] ["_law_told", "_law_places"] (defScope s_law_among) := ⟨rfl, rfl, rfl, by decide +kernel, rfl, by decide +kernel, by decide +kernel⟩
theorem sc_law_values_right : FnScope ["_law_plan", "_law_rows_here", "_law_reading", "_law_place", "_law_numbers", "_law_found", "_law_told", "_law_value_here"] ["_law_plan", "_law_rows_here", "_law_reading", "_law_place"] (defScope s_law_values_right) := ⟨rfl, rfl, rfl, by decide +kernel, rfl, by decide +kernel, by decide +kernel⟩
theorem sc_law_numbers_right : FnScope ["_law_plan", "_law_rows_here", "_law_written", "_law_place", "_law_told", "_law_number"] ["_law_plan", "_law_rows_here", "_law_written", "_law_place"] (defScope s_law_numbers_right) := ⟨rfl, rfl, rfl, by decide +kernel, rfl, by decide +kernel, by decide +kernel⟩
theorem sc_law_areas_right : FnScope ["_law_box_here", "_law_plan", "_law_readings", "_law_size", "_law_top", "_law_left", "_law_high", "_law_wide", "_law_places", "_law_at", "_law_reading", "_law_told", "_law_found", "_law_whole_here", "_law_due", "_law_row"] ["_law_box_here", "_law_plan", "_law_readings", "_law_size"] (defScope s_law_areas_right) := ⟨rfl, rfl, rfl, by decide +kernel, rfl, by decide +kernel, by decide +kernel⟩
theorem sc_law : FnScope ["_law_script", "_law_k", "_law_box_here", "_law_cut", "_law_size", "_law_word", "_law_plan", "_law_rows_here", "_law_written", "_law_text", "_law_head", "_law_reading", "_law_full", "_law_drawn", "_law_place", "_law_some", "_law_row"] ["_law_script"] (defScope s_law) := ⟨rfl, rfl, rfl, by decide +kernel, rfl, by decide +kernel, by decide +kernel⟩
/-! ### the head's facts -/
def d_is_whole : He.DefD := ⟨("is_whole", none), "is_whole", "is_whole", defArgs s_is_whole, defBody s_is_whole, defScope s_is_whole, [], []⟩
def d_is_row : He.DefD := ⟨("is_row", none), "is_row", "is_row", defArgs s_is_row, defBody s_is_row, defScope s_is_row, [], []⟩
def d_are_rows : He.DefD := ⟨("are_rows", none), "are_rows", "are_rows", defArgs s_are_rows, defBody s_are_rows, defScope s_are_rows, [], []⟩
def d_Field_init : He.DefD := ⟨("Field", some "__init__"), "__init__", "Field.__init__", defArgs s_Field_init, defBody s_Field_init, defScope s_Field_init, [], []⟩
def d_Field_height : He.DefD := ⟨("Field", some "height"), "height", "Field.height", defArgs s_Field_height, defBody s_Field_height, defScope s_Field_height, [], []⟩
def d_Field_width : He.DefD := ⟨("Field", some "width"), "width", "Field.width", defArgs s_Field_width, defBody s_Field_width, defScope s_Field_width, [], []⟩
def d_Field_rows : He.DefD := ⟨("Field", some "rows"), "rows", "Field.rows", defArgs s_Field_rows, defBody s_Field_rows, defScope s_Field_rows, [], []⟩
def d_Field_flat : He.DefD := ⟨("Field", some "flat"), "flat", "Field.flat", defArgs s_Field_flat, defBody s_Field_flat, defScope s_Field_flat, [], []⟩
def d_Field_places : He.DefD := ⟨("Field", some "places"), "places", "Field.places", defArgs s_Field_places, defBody s_Field_places, defScope s_Field_places, [], []⟩
def d_Field_is_place : He.DefD := ⟨("Field", some "is_place"), "is_place", "Field.is_place", defArgs s_Field_is_place, defBody s_Field_is_place, defScope s_Field_is_place, [], []⟩
def d_Field_at : He.DefD := ⟨("Field", some "at"), "at", "Field.at", defArgs s_Field_at, defBody s_Field_at, defScope s_Field_at, [], []⟩
def d_need_field : He.DefD := ⟨("need_field", none), "need_field", "need_field", defArgs s_need_field, defBody s_need_field, defScope s_need_field, [], []⟩
def d_need_picture : He.DefD := ⟨("need_picture", none), "need_picture", "need_picture", defArgs s_need_picture, defBody s_need_picture, defScope s_need_picture, [], []⟩
def d_need_numbers : He.DefD := ⟨("need_numbers", none), "need_numbers", "need_numbers", defArgs s_need_numbers, defBody s_need_numbers, defScope s_need_numbers, [], []⟩
def d_rows_halved : He.DefD := ⟨("rows_halved", none), "rows_halved", "rows_halved", defArgs s_rows_halved, defBody s_rows_halved, defScope s_rows_halved, [], []⟩
def d_rows_back : He.DefD := ⟨("rows_back", none), "rows_back", "rows_back", defArgs s_rows_back, defBody s_rows_back, defScope s_rows_back, [], []⟩
def d_pillars_halved : He.DefD := ⟨("pillars_halved", none), "pillars_halved", "pillars_halved", defArgs s_pillars_halved, defBody s_pillars_halved, defScope s_pillars_halved, [], []⟩
def d_pillars_back : He.DefD := ⟨("pillars_back", none), "pillars_back", "pillars_back", defArgs s_pillars_back, defBody s_pillars_back, defScope s_pillars_back, [], []⟩
def d_step_halved : He.DefD := ⟨("step_halved", none), "step_halved", "step_halved", defArgs s_step_halved, defBody s_step_halved, defScope s_step_halved, [], []⟩
def d_step_back : He.DefD := ⟨("step_back", none), "step_back", "step_back", defArgs s_step_back, defBody s_step_back, defScope s_step_back, [], []⟩
def d_halved : He.DefD := ⟨("halved", none), "halved", "halved", defArgs s_halved, defBody s_halved, defScope s_halved, [], []⟩
def d_put_back : He.DefD := ⟨("put_back", none), "put_back", "put_back", defArgs s_put_back, defBody s_put_back, defScope s_put_back, [], []⟩
def d_coarse : He.DefD := ⟨("coarse", none), "coarse", "coarse", defArgs s_coarse, defBody s_coarse, defScope s_coarse, [], []⟩
def d_pairs_of : He.DefD := ⟨("pairs_of", none), "pairs_of", "pairs_of", defArgs s_pairs_of, defBody s_pairs_of, defScope s_pairs_of, [], []⟩
def d_Sums_word : He.DefD := ⟨("Sums", some "word"), "word", "Sums.word", defArgs s_Sums_word, defBody s_Sums_word, defScope s_Sums_word, [], []⟩
def d_Sums_parted : He.DefD := ⟨("Sums", some "parted"), "parted", "Sums.parted", defArgs s_Sums_parted, defBody s_Sums_parted, defScope s_Sums_parted, [], []⟩
def d_Sums_joined : He.DefD := ⟨("Sums", some "joined"), "joined", "Sums.joined", defArgs s_Sums_joined, defBody s_Sums_joined, defScope s_Sums_joined, [], []⟩
def d_Halves_word : He.DefD := ⟨("Halves", some "word"), "word", "Halves.word", defArgs s_Halves_word, defBody s_Halves_word, defScope s_Halves_word, [], []⟩
def d_Halves_parted : He.DefD := ⟨("Halves", some "parted"), "parted", "Halves.parted", defArgs s_Halves_parted, defBody s_Halves_parted, defScope s_Halves_parted, [], []⟩
def d_Halves_joined : He.DefD := ⟨("Halves", some "joined"), "joined", "Halves.joined", defArgs s_Halves_joined, defBody s_Halves_joined, defScope s_Halves_joined, [], []⟩
def d_half_sums : He.DefD := ⟨("half_sums", none), "half_sums", "half_sums", defArgs s_half_sums, defBody s_half_sums, defScope s_half_sums, [], []⟩
def d_half_row : He.DefD := ⟨("half_row", none), "half_row", "half_row", defArgs s_half_row, defBody s_half_row, defScope s_half_row, [], []⟩
def d_nearest : He.DefD := ⟨("nearest", none), "nearest", "nearest", defArgs s_nearest, defBody s_nearest, defScope s_nearest, [], []⟩
def d_Guessed_word : He.DefD := ⟨("Guessed", some "word"), "word", "Guessed.word", defArgs s_Guessed_word, defBody s_Guessed_word, defScope s_Guessed_word, [], []⟩
def d_Guessed_parted : He.DefD := ⟨("Guessed", some "parted"), "parted", "Guessed.parted", defArgs s_Guessed_parted, defBody s_Guessed_parted, defScope s_Guessed_parted, [], []⟩
def d_Guessed_joined : He.DefD := ⟨("Guessed", some "joined"), "joined", "Guessed.joined", defArgs s_Guessed_joined, defBody s_Guessed_joined, defScope s_Guessed_joined, [], []⟩
def d_slopes : He.DefD := ⟨("slopes", none), "slopes", "slopes", defArgs s_slopes, defBody s_slopes, defScope s_slopes, [], []⟩
def d_Leaning_word : He.DefD := ⟨("Leaning", some "word"), "word", "Leaning.word", defArgs s_Leaning_word, defBody s_Leaning_word, defScope s_Leaning_word, [], []⟩
def d_Leaning_parted : He.DefD := ⟨("Leaning", some "parted"), "parted", "Leaning.parted", defArgs s_Leaning_parted, defBody s_Leaning_parted, defScope s_Leaning_parted, [], []⟩
def d_Leaning_joined : He.DefD := ⟨("Leaning", some "joined"), "joined", "Leaning.joined", defArgs s_Leaning_joined, defBody s_Leaning_joined, defScope s_Leaning_joined, [], []⟩
def d_words : He.DefD := ⟨("words", none), "words", "words", defArgs s_words, defBody s_words, defScope s_words, [], []⟩
def d_rule_of : He.DefD := ⟨("rule_of", none), "rule_of", "rule_of", defArgs s_rule_of, defBody s_rule_of, defScope s_rule_of, [], []⟩
def d_Spread_init : He.DefD := ⟨("Spread", some "__init__"), "__init__", "Spread.__init__", defArgs s_Spread_init, defBody s_Spread_init, defScope s_Spread_init, [], []⟩
def d_Spread_sum_places : He.DefD := ⟨("Spread", some "sum_places"), "sum_places", "Spread.sum_places", defArgs s_Spread_sum_places, defBody s_Spread_sum_places, defScope s_Spread_sum_places, [], []⟩
def d_Spread_difference_places : He.DefD := ⟨("Spread", some "difference_places"), "difference_places", "Spread.difference_places", defArgs s_Spread_difference_places, defBody s_Spread_difference_places, defScope s_Spread_difference_places, [], []⟩
def d_Spread_first_needs : He.DefD := ⟨("Spread", some "first_needs"), "first_needs", "Spread.first_needs", defArgs s_Spread_first_needs, defBody s_Spread_first_needs, defScope s_Spread_first_needs, [], []⟩
def d_Spread_second_needs : He.DefD := ⟨("Spread", some "second_needs"), "second_needs", "Spread.second_needs", defArgs s_Spread_second_needs, defBody s_Spread_second_needs, defScope s_Spread_second_needs, [], []⟩
def d_Spread_spread_at : He.DefD := ⟨("Spread", some "spread_at"), "spread_at", "Spread.spread_at", defArgs s_Spread_spread_at, defBody s_Spread_spread_at, defScope s_Spread_spread_at, [], []⟩
def d_Spread_back_at : He.DefD := ⟨("Spread", some "back_at"), "back_at", "Spread.back_at", defArgs s_Spread_back_at, defBody s_Spread_back_at, defScope s_Spread_back_at, [], []⟩
def d_LeaningSpread_near_sums : He.DefD := ⟨("LeaningSpread", some "near_sums"), "near_sums", "LeaningSpread.near_sums", defArgs s_LeaningSpread_near_sums, defBody s_LeaningSpread_near_sums, defScope s_LeaningSpread_near_sums, [], []⟩
def d_LeaningSpread_difference_places : He.DefD := ⟨("LeaningSpread", some "difference_places"), "difference_places", "LeaningSpread.difference_places", defArgs s_LeaningSpread_difference_places, defBody s_LeaningSpread_difference_places, defScope s_LeaningSpread_difference_places, [], []⟩
def d_LeaningSpread_first_needs : He.DefD := ⟨("LeaningSpread", some "first_needs"), "first_needs", "LeaningSpread.first_needs", defArgs s_LeaningSpread_first_needs, defBody s_LeaningSpread_first_needs, defScope s_LeaningSpread_first_needs, [], []⟩
def d_GuessedSpread_near_differences : He.DefD := ⟨("GuessedSpread", some "near_differences"), "near_differences", "GuessedSpread.near_differences", defArgs s_GuessedSpread_near_differences, defBody s_GuessedSpread_near_differences, defScope s_GuessedSpread_near_differences, [], []⟩
def d_GuessedSpread_sum_places : He.DefD := ⟨("GuessedSpread", some "sum_places"), "sum_places", "GuessedSpread.sum_places", defArgs s_GuessedSpread_sum_places, defBody s_GuessedSpread_sum_places, defScope s_GuessedSpread_sum_places, [], []⟩
def d_GuessedSpread_difference_places : He.DefD := ⟨("GuessedSpread", some "difference_places"), "difference_places", "GuessedSpread.difference_places", defArgs s_GuessedSpread_difference_places, defBody s_GuessedSpread_difference_places, defScope s_GuessedSpread_difference_places, [], []⟩
def d_GuessedSpread_first_needs : He.DefD := ⟨("GuessedSpread", some "first_needs"), "first_needs", "GuessedSpread.first_needs", defArgs s_GuessedSpread_first_needs, defBody s_GuessedSpread_first_needs, defScope s_GuessedSpread_first_needs, [], []⟩
def d_GuessedSpread_second_needs : He.DefD := ⟨("GuessedSpread", some "second_needs"), "second_needs", "GuessedSpread.second_needs", defArgs s_GuessedSpread_second_needs, defBody s_GuessedSpread_second_needs, defScope s_GuessedSpread_second_needs, [], []⟩
def d_spread_by : He.DefD := ⟨("spread_by", none), "spread_by", "spread_by", defArgs s_spread_by, defBody s_spread_by, defScope s_spread_by, [], []⟩
def d_need_place : He.DefD := ⟨("need_place", none), "need_place", "need_place", defArgs s_need_place, defBody s_need_place, defScope s_need_place, [], []⟩
def d_in_rows : He.DefD := ⟨("in_rows", none), "in_rows", "in_rows", defArgs s_in_rows, defBody s_in_rows, defScope s_in_rows, [], []⟩
def d_in_pillars : He.DefD := ⟨("in_pillars", none), "in_pillars", "in_pillars", defArgs s_in_pillars, defBody s_in_pillars, defScope s_in_pillars, [], []⟩
def d_spread_tables : He.DefD := ⟨("spread_tables", none), "spread_tables", "spread_tables", defArgs s_spread_tables, defBody s_spread_tables, defScope s_spread_tables, [], []⟩
def d_back_tables : He.DefD := ⟨("back_tables", none), "back_tables", "back_tables", defArgs s_back_tables, defBody s_back_tables, defScope s_back_tables, [], []⟩
def d_hangs : He.DefD := ⟨("hangs", none), "hangs", "hangs", defArgs s_hangs, defBody s_hangs, defScope s_hangs, [], []⟩
def d_needs_behind : He.DefD := ⟨("needs_behind", none), "needs_behind", "needs_behind", defArgs s_needs_behind, defBody s_needs_behind, defScope s_needs_behind, [], []⟩
def d_needs : He.DefD := ⟨("needs", none), "needs", "needs", defArgs s_needs, defBody s_needs, defScope s_needs, [], []⟩
def d_asked_field : He.DefD := ⟨("asked_field", none), "asked_field", "asked_field", defArgs s_asked_field, defBody s_asked_field, defScope s_asked_field, [], []⟩
def d_number_from : He.DefD := ⟨("number_from", none), "number_from", "number_from", defArgs s_number_from, defBody s_number_from, defScope s_number_from, [], []⟩
def d_place_from : He.DefD := ⟨("place_from", none), "place_from", "place_from", defArgs s_place_from, defBody s_place_from, defScope s_place_from, [], []⟩
def d_area_from : He.DefD := ⟨("area_from", none), "area_from", "area_from", defArgs s_area_from, defBody s_area_from, defScope s_area_from, [], []⟩
def d_is_size : He.DefD := ⟨("is_size", none), "is_size", "is_size", defArgs s_is_size, defBody s_is_size, defScope s_is_size, [], []⟩
def d_corners_of : He.DefD := ⟨("corners_of", none), "corners_of", "corners_of", defArgs s_corners_of, defBody s_corners_of, defScope s_corners_of, [], []⟩
def d_Plan_init : He.DefD := ⟨("Plan", some "__init__"), "__init__", "Plan.__init__", defArgs s_Plan_init, defBody s_Plan_init, defScope s_Plan_init, [], []⟩
def d_Plan_height : He.DefD := ⟨("Plan", some "height"), "height", "Plan.height", defArgs s_Plan_height, defBody s_Plan_height, defScope s_Plan_height, [], []⟩
def d_Plan_width : He.DefD := ⟨("Plan", some "width"), "width", "Plan.width", defArgs s_Plan_width, defBody s_Plan_width, defScope s_Plan_width, [], []⟩
def d_Plan_rule : He.DefD := ⟨("Plan", some "rule"), "rule", "Plan.rule", defArgs s_Plan_rule, defBody s_Plan_rule, defScope s_Plan_rule, [], []⟩
def d_Plan_way : He.DefD := ⟨("Plan", some "way"), "way", "Plan.way", defArgs s_Plan_way, defBody s_Plan_way, defScope s_Plan_way, [], []⟩
def d_Plan_steps : He.DefD := ⟨("Plan", some "steps"), "steps", "Plan.steps", defArgs s_Plan_steps, defBody s_Plan_steps, defScope s_Plan_steps, [], []⟩
def d_Plan_corner : He.DefD := ⟨("Plan", some "corner"), "corner", "Plan.corner", defArgs s_Plan_corner, defBody s_Plan_corner, defScope s_Plan_corner, [], []⟩
def d_Plan_step_parts : He.DefD := ⟨("Plan", some "step_parts"), "step_parts", "Plan.step_parts", defArgs s_Plan_step_parts, defBody s_Plan_step_parts, defScope s_Plan_step_parts, [], []⟩
def d_Plan_parts : He.DefD := ⟨("Plan", some "parts"), "parts", "Plan.parts", defArgs s_Plan_parts, defBody s_Plan_parts, defScope s_Plan_parts, [], []⟩
def d_Plan_order : He.DefD := ⟨("Plan", some "order"), "order", "Plan.order", defArgs s_Plan_order, defBody s_Plan_order, defScope s_Plan_order, [], []⟩
def d_check_of : He.DefD := ⟨("check_of", none), "check_of", "check_of", defArgs s_check_of, defBody s_check_of, defScope s_check_of, [], []⟩
def d_head_of : He.DefD := ⟨("head_of", none), "head_of", "head_of", defArgs s_head_of, defBody s_head_of, defScope s_head_of, [], []⟩
def d_planes_of : He.DefD := ⟨("planes_of", none), "planes_of", "planes_of", defArgs s_planes_of, defBody s_planes_of, defScope s_planes_of, [], []⟩
def d_small_number : He.DefD := ⟨("small_number", none), "small_number", "small_number", defArgs s_small_number, defBody s_small_number, defScope s_small_number, [], []⟩
def d_plan_told : He.DefD := ⟨("plan_told", none), "plan_told", "plan_told", defArgs s_plan_told, defBody s_plan_told, defScope s_plan_told, [], []⟩
def d_head_in : He.DefD := ⟨("head_in", none), "head_in", "head_in", defArgs s_head_in, defBody s_head_in, defScope s_head_in, [], []⟩
def d_Reading_init : He.DefD := ⟨("Reading", some "__init__"), "__init__", "Reading.__init__", defArgs s_Reading_init, defBody s_Reading_init, defScope s_Reading_init, [], []⟩
def d_Reading_plan : He.DefD := ⟨("Reading", some "plan"), "plan", "Reading.plan", defArgs s_Reading_plan, defBody s_Reading_plan, defScope s_Reading_plan, [], []⟩
def d_Reading_numbers : He.DefD := ⟨("Reading", some "numbers"), "numbers", "Reading.numbers", defArgs s_Reading_numbers, defBody s_Reading_numbers, defScope s_Reading_numbers, [], []⟩
def d_Reading_unread : He.DefD := ⟨("Reading", some "unread"), "unread", "Reading.unread", defArgs s_Reading_unread, defBody s_Reading_unread, defScope s_Reading_unread, [], []⟩
def d_Reading_laid : He.DefD := ⟨("Reading", some "laid"), "laid", "Reading.laid", defArgs s_Reading_laid, defBody s_Reading_laid, defScope s_Reading_laid, [], []⟩
def d_Reading_sign_of : He.DefD := ⟨("Reading", some "sign_of"), "sign_of", "Reading.sign_of", defArgs s_Reading_sign_of, defBody s_Reading_sign_of, defScope s_Reading_sign_of, [], []⟩
def d_Reading_read_planes : He.DefD := ⟨("Reading", some "read_planes"), "read_planes", "Reading.read_planes", defArgs s_Reading_read_planes, defBody s_Reading_read_planes, defScope s_Reading_read_planes, [], []⟩
def d_Reading_read_plane : He.DefD := ⟨("Reading", some "read_plane"), "read_plane", "Reading.read_plane", defArgs s_Reading_read_plane, defBody s_Reading_read_plane, defScope s_Reading_read_plane, [], []⟩
def d_Reading_read_check : He.DefD := ⟨("Reading", some "read_check"), "read_check", "Reading.read_check", defArgs s_Reading_read_check, defBody s_Reading_read_check, defScope s_Reading_read_check, [], []⟩
def d_read_signs : He.DefD := ⟨("read_signs", none), "read_signs", "read_signs", defArgs s_read_signs, defBody s_read_signs, defScope s_read_signs, [], []⟩
def d_plane_text : He.DefD := ⟨("plane_text", none), "plane_text", "plane_text", defArgs s_plane_text, defBody s_plane_text, defScope s_plane_text, [], []⟩
def d_signs : He.DefD := ⟨("signs", none), "signs", "signs", defArgs s_signs, defBody s_signs, defScope s_signs, [], []⟩
def d_pairs_joined : He.DefD := ⟨("pairs_joined", none), "pairs_joined", "pairs_joined", defArgs s_pairs_joined, defBody s_pairs_joined, defScope s_pairs_joined, [], []⟩
def d_SumCarrier_carried_on : He.DefD := ⟨("SumCarrier", some "carried_on"), "carried_on", "SumCarrier.carried_on", defArgs s_SumCarrier_carried_on, defBody s_SumCarrier_carried_on, defScope s_SumCarrier_carried_on, [], []⟩
def d_HalfCarrier_carried_on : He.DefD := ⟨("HalfCarrier", some "carried_on"), "carried_on", "HalfCarrier.carried_on", defArgs s_HalfCarrier_carried_on, defBody s_HalfCarrier_carried_on, defScope s_HalfCarrier_carried_on, [], []⟩
def d_GuessCarrier_carried_on : He.DefD := ⟨("GuessCarrier", some "carried_on"), "carried_on", "GuessCarrier.carried_on", defArgs s_GuessCarrier_carried_on, defBody s_GuessCarrier_carried_on, defScope s_GuessCarrier_carried_on, [], []⟩
def d_LeanCarrier_carried_on : He.DefD := ⟨("LeanCarrier", some "carried_on"), "carried_on", "LeanCarrier.carried_on", defArgs s_LeanCarrier_carried_on, defBody s_LeanCarrier_carried_on, defScope s_LeanCarrier_carried_on, [], []⟩
def d_carrier_of : He.DefD := ⟨("carrier_of", none), "carrier_of", "carrier_of", defArgs s_carrier_of, defBody s_carrier_of, defScope s_carrier_of, [], []⟩
def d_need_errors : He.DefD := ⟨("need_errors", none), "need_errors", "need_errors", defArgs s_need_errors, defBody s_need_errors, defScope s_need_errors, [], []⟩
def d_along_rows : He.DefD := ⟨("along_rows", none), "along_rows", "along_rows", defArgs s_along_rows, defBody s_along_rows, defScope s_along_rows, [], []⟩
def d_along_pillars : He.DefD := ⟨("along_pillars", none), "along_pillars", "along_pillars", defArgs s_along_pillars, defBody s_along_pillars, defScope s_along_pillars, [], []⟩
def d_carried_rows : He.DefD := ⟨("carried_rows", none), "carried_rows", "carried_rows", defArgs s_carried_rows, defBody s_carried_rows, defScope s_carried_rows, [], []⟩
def d_worst : He.DefD := ⟨("worst", none), "worst", "worst", defArgs s_worst, defBody s_worst, defScope s_worst, [], []⟩
def d_law_cell : He.DefD := ⟨("_law_cell", none), "_law_cell", "_law_cell", defArgs s_law_cell, defBody s_law_cell, defScope s_law_cell, [], []⟩
def d_law_box : He.DefD := ⟨("_law_box", none), "_law_box", "_law_box", defArgs s_law_box, defBody s_law_box, defScope s_law_box, [], []⟩
def d_law_take : He.DefD := ⟨("_law_take", none), "_law_take", "_law_take", defArgs s_law_take, defBody s_law_take, defScope s_law_take, [], []⟩
def d_law_way : He.DefD := ⟨("_law_way", none), "_law_way", "_law_way", defArgs s_law_way, defBody s_law_way, defScope s_law_way, [], []⟩
def d_law_value : He.DefD := ⟨("_law_value", none), "_law_value", "_law_value", defArgs s_law_value, defBody s_law_value, defScope s_law_value, [], []⟩
def d_law_rows : He.DefD := ⟨("_law_rows", none), "_law_rows", "_law_rows", defArgs s_law_rows, defBody s_law_rows, defScope s_law_rows, [], []⟩
def d_law_whole : He.DefD := ⟨("_law_whole", none), "_law_whole", "_law_whole", defArgs s_law_whole, defBody s_law_whole, defScope s_law_whole, [], []⟩
def d_law_shape : He.DefD := ⟨("_law_shape", none), "_law_shape", "_law_shape", defArgs s_law_shape, defBody s_law_shape, defScope s_law_shape, [], []⟩
def d_law_asked : He.DefD := ⟨("_law_asked", none), "_law_asked", "_law_asked", defArgs s_law_asked, defBody s_law_asked, defScope s_law_asked, [], []⟩
def d_law_among : He.DefD := ⟨("_law_among", none), "_law_among", "_law_among", defArgs s_law_among, defBody s_law_among, defScope s_law_among, [], []⟩
def d_law_values_right : He.DefD := ⟨("_law_values_right", none), "_law_values_right", "_law_values_right", defArgs s_law_values_right, defBody s_law_values_right, defScope s_law_values_right, [], []⟩
def d_law_numbers_right : He.DefD := ⟨("_law_numbers_right", none), "_law_numbers_right", "_law_numbers_right", defArgs s_law_numbers_right, defBody s_law_numbers_right, defScope s_law_numbers_right, [], []⟩
def d_law_areas_right : He.DefD := ⟨("_law_areas_right", none), "_law_areas_right", "_law_areas_right", defArgs s_law_areas_right, defBody s_law_areas_right, defScope s_law_areas_right, [], []⟩
def d_law : He.DefD := ⟨("law", none), "law", "law", defArgs s_law, defBody s_law, defScope s_law, [], []⟩
def fn0 : List He.DefD := [d_is_whole, d_is_row, d_are_rows, d_Field_init, d_Field_height, d_Field_width, d_Field_rows, d_Field_flat, d_Field_places, d_Field_is_place, d_Field_at, d_need_field, d_need_picture, d_need_numbers, d_rows_halved, d_rows_back, d_pillars_halved, d_pillars_back, d_step_halved, d_step_back]
def fn1 : List He.DefD := [d_halved, d_put_back, d_coarse, d_pairs_of, d_Sums_word, d_Sums_parted, d_Sums_joined, d_Halves_word, d_Halves_parted, d_Halves_joined, d_half_sums, d_half_row, d_nearest, d_Guessed_word, d_Guessed_parted, d_Guessed_joined, d_slopes, d_Leaning_word, d_Leaning_parted, d_Leaning_joined]
def fn2 : List He.DefD := [d_words, d_rule_of, d_Spread_init, d_Spread_sum_places, d_Spread_difference_places, d_Spread_first_needs, d_Spread_second_needs, d_Spread_spread_at, d_Spread_back_at, d_LeaningSpread_near_sums, d_LeaningSpread_difference_places, d_LeaningSpread_first_needs, d_GuessedSpread_near_differences, d_GuessedSpread_sum_places, d_GuessedSpread_difference_places, d_GuessedSpread_first_needs, d_GuessedSpread_second_needs, d_spread_by, d_need_place, d_in_rows]
def fn3 : List He.DefD := [d_in_pillars, d_spread_tables, d_back_tables, d_hangs, d_needs_behind, d_needs, d_asked_field, d_number_from, d_place_from, d_area_from, d_is_size, d_corners_of, d_Plan_init, d_Plan_height, d_Plan_width, d_Plan_rule, d_Plan_way, d_Plan_steps, d_Plan_corner, d_Plan_step_parts]
def fn4 : List He.DefD := [d_Plan_parts, d_Plan_order, d_check_of, d_head_of, d_planes_of, d_small_number, d_plan_told, d_head_in, d_Reading_init, d_Reading_plan, d_Reading_numbers, d_Reading_unread, d_Reading_laid, d_Reading_sign_of, d_Reading_read_planes, d_Reading_read_plane, d_Reading_read_check, d_read_signs, d_plane_text, d_signs]
def fn5 : List He.DefD := [d_pairs_joined, d_SumCarrier_carried_on, d_HalfCarrier_carried_on, d_GuessCarrier_carried_on, d_LeanCarrier_carried_on, d_carrier_of, d_need_errors, d_along_rows, d_along_pillars, d_carried_rows, d_worst, d_law_cell, d_law_box, d_law_take, d_law_way, d_law_value, d_law_rows, d_law_whole, d_law_shape, d_law_asked]
def fn6 : List He.DefD := [d_law_among, d_law_values_right, d_law_numbers_right, d_law_areas_right, d_law]
def fn : List He.DefD := fn0 ++ (fn1 ++ (fn2 ++ (fn3 ++ (fn4 ++ (fn5 ++ (fn6))))))
def fa0 : List He.Fa := [.glo "is_whole", .glo "is_row", .glo "are_rows", .glo "need_field", .glo "need_picture", .glo "need_numbers", .glo "rows_halved", .glo "rows_back", .glo "pillars_halved", .glo "pillars_back", .glo "step_halved", .glo "step_back", .glo "halved", .glo "put_back", .glo "coarse", .glo "pairs_of", .glo "half_sums", .glo "half_row", .glo "nearest", .glo "slopes"]
def fa1 : List He.Fa := [.glo "words", .glo "rule_of", .glo "spread_by", .glo "need_place", .glo "in_rows", .glo "in_pillars", .glo "spread_tables", .glo "back_tables", .glo "hangs", .glo "needs_behind", .glo "needs", .glo "asked_field", .glo "number_from", .glo "place_from", .glo "area_from", .glo "is_size", .glo "corners_of", .glo "check_of", .glo "head_of", .glo "planes_of"]
def fa2 : List He.Fa := [.glo "small_number", .glo "plan_told", .glo "head_in", .glo "read_signs", .glo "plane_text", .glo "signs", .glo "pairs_joined", .glo "carrier_of", .glo "need_errors", .glo "along_rows", .glo "along_pillars", .glo "carried_rows", .glo "worst", .glo "_law_cell", .glo "_law_box", .glo "_law_take", .glo "_law_way", .glo "_law_value", .glo "_law_rows", .glo "_law_whole"]
def fa3 : List He.Fa := [.glo "_law_shape", .glo "_law_asked", .glo "_law_among", .glo "_law_values_right", .glo "_law_numbers_right", .glo "_law_areas_right", .glo "law", .glo "Field", .cls "Field", .glo "Plan", .cls "Plan", .glo "Spread", .cls "Spread", .glo "LeaningSpread", .cls "LeaningSpread", .glo "GuessedSpread", .cls "GuessedSpread", .glo "Reading", .cls "Reading", .glo "Sums"]
def fa4 : List He.Fa := [.cls "Sums", .glo "Halves", .cls "Halves", .glo "Guessed", .cls "Guessed", .glo "Leaning", .cls "Leaning", .glo "SumCarrier", .cls "SumCarrier", .glo "HalfCarrier", .cls "HalfCarrier", .glo "GuessCarrier", .cls "GuessCarrier", .glo "LeanCarrier", .cls "LeanCarrier", .mkr "Field", .noat "Field" "lines", .mkr "Plan", .noat "Plan" "ruled", .noat "Plan" "letters"]
def fa5 : List He.Fa := [.noat "Plan" "corners", .mkr "Spread", .noat "Spread" "size", .noat "Spread" "totals", .noat "Spread" "pairs", .mkr "LeaningSpread", .noat "LeaningSpread" "size", .noat "LeaningSpread" "totals", .noat "LeaningSpread" "pairs", .mkr "GuessedSpread", .noat "GuessedSpread" "size", .noat "GuessedSpread" "totals", .noat "GuessedSpread" "pairs", .mkr "Reading", .noat "Reading" "told_signs", .noat "Reading" "design", .noat "Reading" "powers", .noat "Reading" "cursor", .noat "Reading" "ordered", .noat "Reading" "amounts"]
def fa6 : List He.Fa := [.noat "Reading" "minus", .noat "Reading" "lacking", .noat "Reading" "ended", .meth "Field" "height", .meth "Field" "width", .meth "Field" "rows", .meth "Field" "flat", .meth "Field" "places", .meth "Field" "is_place", .meth "Field" "at", .meth "Sums" "word", .meth "Sums" "parted", .meth "Sums" "joined", .meth "Halves" "word", .meth "Halves" "parted", .meth "Halves" "joined", .meth "Guessed" "word", .meth "Guessed" "parted", .meth "Guessed" "joined", .meth "Leaning" "word"]
def fa7 : List He.Fa := [.meth "Leaning" "parted", .meth "Leaning" "joined", .meth "Spread" "sum_places", .meth "Spread" "difference_places", .meth "Spread" "first_needs", .meth "Spread" "second_needs", .meth "Spread" "spread_at", .meth "Spread" "back_at", .meth "LeaningSpread" "near_sums", .meth "LeaningSpread" "difference_places", .meth "LeaningSpread" "first_needs", .meth "GuessedSpread" "near_differences", .meth "GuessedSpread" "sum_places", .meth "GuessedSpread" "difference_places", .meth "GuessedSpread" "first_needs", .meth "GuessedSpread" "second_needs", .meth "Plan" "height", .meth "Plan" "width", .meth "Plan" "rule", .meth "Plan" "way"]
def fa8 : List He.Fa := [.meth "Plan" "steps", .meth "Plan" "corner", .meth "Plan" "step_parts", .meth "Plan" "parts", .meth "Plan" "order", .meth "Reading" "plan", .meth "Reading" "numbers", .meth "Reading" "unread", .meth "Reading" "laid", .meth "Reading" "sign_of", .meth "Reading" "read_planes", .meth "Reading" "read_plane", .meth "Reading" "read_check", .meth "SumCarrier" "carried_on", .meth "HalfCarrier" "carried_on", .meth "GuessCarrier" "carried_on", .meth "LeanCarrier" "carried_on", .meth "LeaningSpread" "sum_places", .meth "LeaningSpread" "second_needs", .meth "LeaningSpread" "spread_at"]
def fa9 : List He.Fa := [.meth "LeaningSpread" "back_at", .meth "GuessedSpread" "spread_at", .meth "GuessedSpread" "back_at", .int "FIGURES" 999999999999999, .int "PICTURE" 100000, .int "NUMBER" 1000000000, .int "MOST_PLANES" 30, .int "MOST_ERROR" 1073741824, .free "len", .free "range", .free "isinstance", .free "abs", .free "max", .free "min", .free "int", .free "str", .free "ord", .free "sorted", .free "set", .free "list"]
def fa10 : List He.Fa := [.free "dict", .free "enumerate", .free "zip", .free "reversed", .free "repr", .free "bool", .free "tuple"]
def fa : List He.Fa := fa0 ++ (fa1 ++ (fa2 ++ (fa3 ++ (fa4 ++ (fa5 ++ (fa6 ++ (fa7 ++ (fa8 ++ (fa9 ++ (fa10))))))))))
/-- what is looked at besides: inherited methods stand where the base's stand; classes without an __init__ of their own -/
def exB (K : PySem.W.Frag) : Bool := decide (He.ma K (He.ga K "LeaningSpread") "__init__" = He.ma K (He.ga K "Spread") "__init__") && (decide (He.ma K (He.ga K "LeaningSpread") "sum_places" = He.ma K (He.ga K "Spread") "sum_places") && (decide (He.ma K (He.ga K "LeaningSpread") "second_needs" = He.ma K (He.ga K "Spread") "second_needs") && (decide (He.ma K (He.ga K "LeaningSpread") "spread_at" = He.ma K (He.ga K "Spread") "spread_at") && (decide (He.ma K (He.ga K "LeaningSpread") "back_at" = He.ma K (He.ga K "Spread") "back_at") && (decide (He.ma K (He.ga K "GuessedSpread") "__init__" = He.ma K (He.ga K "Spread") "__init__") && (decide (He.ma K (He.ga K "GuessedSpread") "spread_at" = He.ma K (He.ga K "Spread") "spread_at") && (decide (He.ma K (He.ga K "GuessedSpread") "back_at" = He.ma K (He.ga K "Spread") "back_at") && (noIni K (He.ga K "Sums") && (noIni K (He.ga K "Halves") && (noIni K (He.ga K "Guessed") && (noIni K (He.ga K "Leaning") && (noIni K (He.ga K "SumCarrier") && (noIni K (He.ga K "HalfCarrier") && (noIni K (He.ga K "GuessCarrier") && (noIni K (He.ga K "LeanCarrier") && (isiB K (He.ga K "Field")))))))))))))))))
/-- all that is known of the written part and the module's names -/
structure TX (K : PySem.W.Frag) (mg : Str → Option Value) : Prop where
  at_ : ∃ h : Heap, K.In h ∧ h.Ns mainGlobals mg
  ok : obsK fa fn exB K = (true, fn.map He.DefD.val)
section
variable {K : PySem.W.Frag} {mg : Str → Option Value}
theorem TX.all (S : TX K mg) : (fa.all fun f => f.ok K) = true ∧ (fn.all fun d => d.ok K) = true ∧ exB K = true ∧ PySem.W.codeHdIn K (askC K) (askP K) = true ∧ (K.lookup (askP K)).isNone = true := by
  have c := show ((fa.all fun f => f.ok K) && ((fn.all fun d => d.ok K) && (exB K && (PySem.W.codeHdIn K (askC K) (askP K) && (K.lookup (askP K)).isNone)))) = true from congrArg (fun z : He.AlD => z.1) S.ok
  obtain ⟨c1, c⟩ := He.ba c
  obtain ⟨c2, c⟩ := He.ba c
  obtain ⟨c3, c⟩ := He.ba c
  obtain ⟨c4, c5⟩ := He.ba c
  exact ⟨c1, c2, c3, c4, c5⟩
theorem TX.fact (S : TX K mg) (i : Nat) {f : He.Fa} (h : fa[i]? = some f) : f.ok K = true := List.all_eq_true.mp S.all.1 f (List.mem_of_getElem? h)
theorem TX.def_ (S : TX K mg) (i : Nat) {d : He.DefD} (h : fn[i]? = some d) : ∃ fd, FunD K d.name d.qual d.params d.body d.scope (d.dvs K) (d.kws K) (He.fAd K d.at_) fd := by
  have e : fn.map (fun d => He.fnW K d.at_) = fn.map He.DefD.val := congrArg (fun z : He.AlD => z.2) S.ok
  have e2 : (fn.map fun d => He.fnW K d.at_)[i]? = (fn.map He.DefD.val)[i]? := by rw [e]
  rw [List.getElem?_map, List.getElem?_map, h] at e2
  exact He.DefD.funD (Option.some.inj e2) (List.all_eq_true.mp S.all.2.1 d (List.mem_of_getElem? h))
theorem TX.glo (S : TX K mg) {x : Str} (c : (He.Fa.glo x).ok K = true) : mg x = some (.ref (He.ga K x)) := let ⟨_, a, b⟩ := S.at_; He.glo_ok a b c
theorem TX.free (S : TX K mg) {x : Str} (c : (He.Fa.free x).ok K = true) : mg x = none := let ⟨_, a, b⟩ := S.at_; He.free_ok a b c
theorem TX.int (S : TX K mg) {x : Str} {i : Int} (c : (He.Fa.int x i).ok K = true) : ∃ t, mg x = some (.int i t) := let ⟨_, a, b⟩ := S.at_; He.int_ok a b c
theorem glo_is_whole (S : TX K mg) : mg "is_whole" = some (.ref (He.ga K "is_whole")) := S.glo (S.fact 0 (f := .glo "is_whole") rfl)
theorem glo_is_row (S : TX K mg) : mg "is_row" = some (.ref (He.ga K "is_row")) := S.glo (S.fact 1 (f := .glo "is_row") rfl)
theorem glo_are_rows (S : TX K mg) : mg "are_rows" = some (.ref (He.ga K "are_rows")) := S.glo (S.fact 2 (f := .glo "are_rows") rfl)
theorem glo_need_field (S : TX K mg) : mg "need_field" = some (.ref (He.ga K "need_field")) := S.glo (S.fact 3 (f := .glo "need_field") rfl)
theorem glo_need_picture (S : TX K mg) : mg "need_picture" = some (.ref (He.ga K "need_picture")) := S.glo (S.fact 4 (f := .glo "need_picture") rfl)
theorem glo_need_numbers (S : TX K mg) : mg "need_numbers" = some (.ref (He.ga K "need_numbers")) := S.glo (S.fact 5 (f := .glo "need_numbers") rfl)
theorem glo_rows_halved (S : TX K mg) : mg "rows_halved" = some (.ref (He.ga K "rows_halved")) := S.glo (S.fact 6 (f := .glo "rows_halved") rfl)
theorem glo_rows_back (S : TX K mg) : mg "rows_back" = some (.ref (He.ga K "rows_back")) := S.glo (S.fact 7 (f := .glo "rows_back") rfl)
theorem glo_pillars_halved (S : TX K mg) : mg "pillars_halved" = some (.ref (He.ga K "pillars_halved")) := S.glo (S.fact 8 (f := .glo "pillars_halved") rfl)
theorem glo_pillars_back (S : TX K mg) : mg "pillars_back" = some (.ref (He.ga K "pillars_back")) := S.glo (S.fact 9 (f := .glo "pillars_back") rfl)
theorem glo_step_halved (S : TX K mg) : mg "step_halved" = some (.ref (He.ga K "step_halved")) := S.glo (S.fact 10 (f := .glo "step_halved") rfl)
theorem glo_step_back (S : TX K mg) : mg "step_back" = some (.ref (He.ga K "step_back")) := S.glo (S.fact 11 (f := .glo "step_back") rfl)
theorem glo_halved (S : TX K mg) : mg "halved" = some (.ref (He.ga K "halved")) := S.glo (S.fact 12 (f := .glo "halved") rfl)
theorem glo_put_back (S : TX K mg) : mg "put_back" = some (.ref (He.ga K "put_back")) := S.glo (S.fact 13 (f := .glo "put_back") rfl)
theorem glo_coarse (S : TX K mg) : mg "coarse" = some (.ref (He.ga K "coarse")) := S.glo (S.fact 14 (f := .glo "coarse") rfl)
theorem glo_pairs_of (S : TX K mg) : mg "pairs_of" = some (.ref (He.ga K "pairs_of")) := S.glo (S.fact 15 (f := .glo "pairs_of") rfl)
theorem glo_half_sums (S : TX K mg) : mg "half_sums" = some (.ref (He.ga K "half_sums")) := S.glo (S.fact 16 (f := .glo "half_sums") rfl)
theorem glo_half_row (S : TX K mg) : mg "half_row" = some (.ref (He.ga K "half_row")) := S.glo (S.fact 17 (f := .glo "half_row") rfl)
theorem glo_nearest (S : TX K mg) : mg "nearest" = some (.ref (He.ga K "nearest")) := S.glo (S.fact 18 (f := .glo "nearest") rfl)
theorem glo_slopes (S : TX K mg) : mg "slopes" = some (.ref (He.ga K "slopes")) := S.glo (S.fact 19 (f := .glo "slopes") rfl)
theorem glo_words (S : TX K mg) : mg "words" = some (.ref (He.ga K "words")) := S.glo (S.fact 20 (f := .glo "words") rfl)
theorem glo_rule_of (S : TX K mg) : mg "rule_of" = some (.ref (He.ga K "rule_of")) := S.glo (S.fact 21 (f := .glo "rule_of") rfl)
theorem glo_spread_by (S : TX K mg) : mg "spread_by" = some (.ref (He.ga K "spread_by")) := S.glo (S.fact 22 (f := .glo "spread_by") rfl)
theorem glo_need_place (S : TX K mg) : mg "need_place" = some (.ref (He.ga K "need_place")) := S.glo (S.fact 23 (f := .glo "need_place") rfl)
theorem glo_in_rows (S : TX K mg) : mg "in_rows" = some (.ref (He.ga K "in_rows")) := S.glo (S.fact 24 (f := .glo "in_rows") rfl)
theorem glo_in_pillars (S : TX K mg) : mg "in_pillars" = some (.ref (He.ga K "in_pillars")) := S.glo (S.fact 25 (f := .glo "in_pillars") rfl)
theorem glo_spread_tables (S : TX K mg) : mg "spread_tables" = some (.ref (He.ga K "spread_tables")) := S.glo (S.fact 26 (f := .glo "spread_tables") rfl)
theorem glo_back_tables (S : TX K mg) : mg "back_tables" = some (.ref (He.ga K "back_tables")) := S.glo (S.fact 27 (f := .glo "back_tables") rfl)
theorem glo_hangs (S : TX K mg) : mg "hangs" = some (.ref (He.ga K "hangs")) := S.glo (S.fact 28 (f := .glo "hangs") rfl)
theorem glo_needs_behind (S : TX K mg) : mg "needs_behind" = some (.ref (He.ga K "needs_behind")) := S.glo (S.fact 29 (f := .glo "needs_behind") rfl)
theorem glo_needs (S : TX K mg) : mg "needs" = some (.ref (He.ga K "needs")) := S.glo (S.fact 30 (f := .glo "needs") rfl)
theorem glo_asked_field (S : TX K mg) : mg "asked_field" = some (.ref (He.ga K "asked_field")) := S.glo (S.fact 31 (f := .glo "asked_field") rfl)
theorem glo_number_from (S : TX K mg) : mg "number_from" = some (.ref (He.ga K "number_from")) := S.glo (S.fact 32 (f := .glo "number_from") rfl)
theorem glo_place_from (S : TX K mg) : mg "place_from" = some (.ref (He.ga K "place_from")) := S.glo (S.fact 33 (f := .glo "place_from") rfl)
theorem glo_area_from (S : TX K mg) : mg "area_from" = some (.ref (He.ga K "area_from")) := S.glo (S.fact 34 (f := .glo "area_from") rfl)
theorem glo_is_size (S : TX K mg) : mg "is_size" = some (.ref (He.ga K "is_size")) := S.glo (S.fact 35 (f := .glo "is_size") rfl)
theorem glo_corners_of (S : TX K mg) : mg "corners_of" = some (.ref (He.ga K "corners_of")) := S.glo (S.fact 36 (f := .glo "corners_of") rfl)
theorem glo_check_of (S : TX K mg) : mg "check_of" = some (.ref (He.ga K "check_of")) := S.glo (S.fact 37 (f := .glo "check_of") rfl)
theorem glo_head_of (S : TX K mg) : mg "head_of" = some (.ref (He.ga K "head_of")) := S.glo (S.fact 38 (f := .glo "head_of") rfl)
theorem glo_planes_of (S : TX K mg) : mg "planes_of" = some (.ref (He.ga K "planes_of")) := S.glo (S.fact 39 (f := .glo "planes_of") rfl)
theorem glo_small_number (S : TX K mg) : mg "small_number" = some (.ref (He.ga K "small_number")) := S.glo (S.fact 40 (f := .glo "small_number") rfl)
theorem glo_plan_told (S : TX K mg) : mg "plan_told" = some (.ref (He.ga K "plan_told")) := S.glo (S.fact 41 (f := .glo "plan_told") rfl)
theorem glo_head_in (S : TX K mg) : mg "head_in" = some (.ref (He.ga K "head_in")) := S.glo (S.fact 42 (f := .glo "head_in") rfl)
theorem glo_read_signs (S : TX K mg) : mg "read_signs" = some (.ref (He.ga K "read_signs")) := S.glo (S.fact 43 (f := .glo "read_signs") rfl)
theorem glo_plane_text (S : TX K mg) : mg "plane_text" = some (.ref (He.ga K "plane_text")) := S.glo (S.fact 44 (f := .glo "plane_text") rfl)
theorem glo_signs (S : TX K mg) : mg "signs" = some (.ref (He.ga K "signs")) := S.glo (S.fact 45 (f := .glo "signs") rfl)
theorem glo_pairs_joined (S : TX K mg) : mg "pairs_joined" = some (.ref (He.ga K "pairs_joined")) := S.glo (S.fact 46 (f := .glo "pairs_joined") rfl)
theorem glo_carrier_of (S : TX K mg) : mg "carrier_of" = some (.ref (He.ga K "carrier_of")) := S.glo (S.fact 47 (f := .glo "carrier_of") rfl)
theorem glo_need_errors (S : TX K mg) : mg "need_errors" = some (.ref (He.ga K "need_errors")) := S.glo (S.fact 48 (f := .glo "need_errors") rfl)
theorem glo_along_rows (S : TX K mg) : mg "along_rows" = some (.ref (He.ga K "along_rows")) := S.glo (S.fact 49 (f := .glo "along_rows") rfl)
theorem glo_along_pillars (S : TX K mg) : mg "along_pillars" = some (.ref (He.ga K "along_pillars")) := S.glo (S.fact 50 (f := .glo "along_pillars") rfl)
theorem glo_carried_rows (S : TX K mg) : mg "carried_rows" = some (.ref (He.ga K "carried_rows")) := S.glo (S.fact 51 (f := .glo "carried_rows") rfl)
theorem glo_worst (S : TX K mg) : mg "worst" = some (.ref (He.ga K "worst")) := S.glo (S.fact 52 (f := .glo "worst") rfl)
theorem glo_law_cell (S : TX K mg) : mg "_law_cell" = some (.ref (He.ga K "_law_cell")) := S.glo (S.fact 53 (f := .glo "_law_cell") rfl)
theorem glo_law_box (S : TX K mg) : mg "_law_box" = some (.ref (He.ga K "_law_box")) := S.glo (S.fact 54 (f := .glo "_law_box") rfl)
theorem glo_law_take (S : TX K mg) : mg "_law_take" = some (.ref (He.ga K "_law_take")) := S.glo (S.fact 55 (f := .glo "_law_take") rfl)
theorem glo_law_way (S : TX K mg) : mg "_law_way" = some (.ref (He.ga K "_law_way")) := S.glo (S.fact 56 (f := .glo "_law_way") rfl)
theorem glo_law_value (S : TX K mg) : mg "_law_value" = some (.ref (He.ga K "_law_value")) := S.glo (S.fact 57 (f := .glo "_law_value") rfl)
theorem glo_law_rows (S : TX K mg) : mg "_law_rows" = some (.ref (He.ga K "_law_rows")) := S.glo (S.fact 58 (f := .glo "_law_rows") rfl)
theorem glo_law_whole (S : TX K mg) : mg "_law_whole" = some (.ref (He.ga K "_law_whole")) := S.glo (S.fact 59 (f := .glo "_law_whole") rfl)
theorem glo_law_shape (S : TX K mg) : mg "_law_shape" = some (.ref (He.ga K "_law_shape")) := S.glo (S.fact 60 (f := .glo "_law_shape") rfl)
theorem glo_law_asked (S : TX K mg) : mg "_law_asked" = some (.ref (He.ga K "_law_asked")) := S.glo (S.fact 61 (f := .glo "_law_asked") rfl)
theorem glo_law_among (S : TX K mg) : mg "_law_among" = some (.ref (He.ga K "_law_among")) := S.glo (S.fact 62 (f := .glo "_law_among") rfl)
theorem glo_law_values_right (S : TX K mg) : mg "_law_values_right" = some (.ref (He.ga K "_law_values_right")) := S.glo (S.fact 63 (f := .glo "_law_values_right") rfl)
theorem glo_law_numbers_right (S : TX K mg) : mg "_law_numbers_right" = some (.ref (He.ga K "_law_numbers_right")) := S.glo (S.fact 64 (f := .glo "_law_numbers_right") rfl)
theorem glo_law_areas_right (S : TX K mg) : mg "_law_areas_right" = some (.ref (He.ga K "_law_areas_right")) := S.glo (S.fact 65 (f := .glo "_law_areas_right") rfl)
theorem glo_law (S : TX K mg) : mg "law" = some (.ref (He.ga K "law")) := S.glo (S.fact 66 (f := .glo "law") rfl)
theorem glo_Field (S : TX K mg) : mg "Field" = some (.ref (He.ga K "Field")) := S.glo (S.fact 67 (f := .glo "Field") rfl)
theorem cls_Field (S : TX K mg) : Cls K (He.ga K "Field") := He.cls_ok (S.fact 68 (f := .cls "Field") rfl)
theorem glo_Plan (S : TX K mg) : mg "Plan" = some (.ref (He.ga K "Plan")) := S.glo (S.fact 69 (f := .glo "Plan") rfl)
theorem cls_Plan (S : TX K mg) : Cls K (He.ga K "Plan") := He.cls_ok (S.fact 70 (f := .cls "Plan") rfl)
theorem glo_Spread (S : TX K mg) : mg "Spread" = some (.ref (He.ga K "Spread")) := S.glo (S.fact 71 (f := .glo "Spread") rfl)
theorem cls_Spread (S : TX K mg) : Cls K (He.ga K "Spread") := He.cls_ok (S.fact 72 (f := .cls "Spread") rfl)
theorem glo_LeaningSpread (S : TX K mg) : mg "LeaningSpread" = some (.ref (He.ga K "LeaningSpread")) := S.glo (S.fact 73 (f := .glo "LeaningSpread") rfl)
theorem cls_LeaningSpread (S : TX K mg) : Cls K (He.ga K "LeaningSpread") := He.cls_ok (S.fact 74 (f := .cls "LeaningSpread") rfl)
theorem glo_GuessedSpread (S : TX K mg) : mg "GuessedSpread" = some (.ref (He.ga K "GuessedSpread")) := S.glo (S.fact 75 (f := .glo "GuessedSpread") rfl)
theorem cls_GuessedSpread (S : TX K mg) : Cls K (He.ga K "GuessedSpread") := He.cls_ok (S.fact 76 (f := .cls "GuessedSpread") rfl)
theorem glo_Reading (S : TX K mg) : mg "Reading" = some (.ref (He.ga K "Reading")) := S.glo (S.fact 77 (f := .glo "Reading") rfl)
theorem cls_Reading (S : TX K mg) : Cls K (He.ga K "Reading") := He.cls_ok (S.fact 78 (f := .cls "Reading") rfl)
theorem glo_Sums (S : TX K mg) : mg "Sums" = some (.ref (He.ga K "Sums")) := S.glo (S.fact 79 (f := .glo "Sums") rfl)
theorem cls_Sums (S : TX K mg) : Cls K (He.ga K "Sums") := He.cls_ok (S.fact 80 (f := .cls "Sums") rfl)
theorem glo_Halves (S : TX K mg) : mg "Halves" = some (.ref (He.ga K "Halves")) := S.glo (S.fact 81 (f := .glo "Halves") rfl)
theorem cls_Halves (S : TX K mg) : Cls K (He.ga K "Halves") := He.cls_ok (S.fact 82 (f := .cls "Halves") rfl)
theorem glo_Guessed (S : TX K mg) : mg "Guessed" = some (.ref (He.ga K "Guessed")) := S.glo (S.fact 83 (f := .glo "Guessed") rfl)
theorem cls_Guessed (S : TX K mg) : Cls K (He.ga K "Guessed") := He.cls_ok (S.fact 84 (f := .cls "Guessed") rfl)
theorem glo_Leaning (S : TX K mg) : mg "Leaning" = some (.ref (He.ga K "Leaning")) := S.glo (S.fact 85 (f := .glo "Leaning") rfl)
theorem cls_Leaning (S : TX K mg) : Cls K (He.ga K "Leaning") := He.cls_ok (S.fact 86 (f := .cls "Leaning") rfl)
theorem glo_SumCarrier (S : TX K mg) : mg "SumCarrier" = some (.ref (He.ga K "SumCarrier")) := S.glo (S.fact 87 (f := .glo "SumCarrier") rfl)
theorem cls_SumCarrier (S : TX K mg) : Cls K (He.ga K "SumCarrier") := He.cls_ok (S.fact 88 (f := .cls "SumCarrier") rfl)
theorem glo_HalfCarrier (S : TX K mg) : mg "HalfCarrier" = some (.ref (He.ga K "HalfCarrier")) := S.glo (S.fact 89 (f := .glo "HalfCarrier") rfl)
theorem cls_HalfCarrier (S : TX K mg) : Cls K (He.ga K "HalfCarrier") := He.cls_ok (S.fact 90 (f := .cls "HalfCarrier") rfl)
theorem glo_GuessCarrier (S : TX K mg) : mg "GuessCarrier" = some (.ref (He.ga K "GuessCarrier")) := S.glo (S.fact 91 (f := .glo "GuessCarrier") rfl)
theorem cls_GuessCarrier (S : TX K mg) : Cls K (He.ga K "GuessCarrier") := He.cls_ok (S.fact 92 (f := .cls "GuessCarrier") rfl)
theorem glo_LeanCarrier (S : TX K mg) : mg "LeanCarrier" = some (.ref (He.ga K "LeanCarrier")) := S.glo (S.fact 93 (f := .glo "LeanCarrier") rfl)
theorem cls_LeanCarrier (S : TX K mg) : Cls K (He.ga K "LeanCarrier") := He.cls_ok (S.fact 94 (f := .cls "LeanCarrier") rfl)
theorem mkr_Field (S : TX K mg) : Mk K (He.ga K "Field") (He.ma K (He.ga K "Field") "__init__") := He.mkr_ok (S.fact 95 (f := .mkr "Field") rfl)
theorem na_Field_lines (S : TX K mg) : NoAttr K (He.ga K "Field") "lines" := He.noat_ok (S.fact 96 (f := .noat "Field" "lines") rfl)
theorem mkr_Plan (S : TX K mg) : Mk K (He.ga K "Plan") (He.ma K (He.ga K "Plan") "__init__") := He.mkr_ok (S.fact 97 (f := .mkr "Plan") rfl)
theorem na_Plan_ruled (S : TX K mg) : NoAttr K (He.ga K "Plan") "ruled" := He.noat_ok (S.fact 98 (f := .noat "Plan" "ruled") rfl)
theorem na_Plan_letters (S : TX K mg) : NoAttr K (He.ga K "Plan") "letters" := He.noat_ok (S.fact 99 (f := .noat "Plan" "letters") rfl)
theorem na_Plan_corners (S : TX K mg) : NoAttr K (He.ga K "Plan") "corners" := He.noat_ok (S.fact 100 (f := .noat "Plan" "corners") rfl)
theorem mkr_Spread (S : TX K mg) : Mk K (He.ga K "Spread") (He.ma K (He.ga K "Spread") "__init__") := He.mkr_ok (S.fact 101 (f := .mkr "Spread") rfl)
theorem na_Spread_size (S : TX K mg) : NoAttr K (He.ga K "Spread") "size" := He.noat_ok (S.fact 102 (f := .noat "Spread" "size") rfl)
theorem na_Spread_totals (S : TX K mg) : NoAttr K (He.ga K "Spread") "totals" := He.noat_ok (S.fact 103 (f := .noat "Spread" "totals") rfl)
theorem na_Spread_pairs (S : TX K mg) : NoAttr K (He.ga K "Spread") "pairs" := He.noat_ok (S.fact 104 (f := .noat "Spread" "pairs") rfl)
theorem mkr_LeaningSpread (S : TX K mg) : Mk K (He.ga K "LeaningSpread") (He.ma K (He.ga K "LeaningSpread") "__init__") := He.mkr_ok (S.fact 105 (f := .mkr "LeaningSpread") rfl)
theorem na_LeaningSpread_size (S : TX K mg) : NoAttr K (He.ga K "LeaningSpread") "size" := He.noat_ok (S.fact 106 (f := .noat "LeaningSpread" "size") rfl)
theorem na_LeaningSpread_totals (S : TX K mg) : NoAttr K (He.ga K "LeaningSpread") "totals" := He.noat_ok (S.fact 107 (f := .noat "LeaningSpread" "totals") rfl)
theorem na_LeaningSpread_pairs (S : TX K mg) : NoAttr K (He.ga K "LeaningSpread") "pairs" := He.noat_ok (S.fact 108 (f := .noat "LeaningSpread" "pairs") rfl)
theorem mkr_GuessedSpread (S : TX K mg) : Mk K (He.ga K "GuessedSpread") (He.ma K (He.ga K "GuessedSpread") "__init__") := He.mkr_ok (S.fact 109 (f := .mkr "GuessedSpread") rfl)
theorem na_GuessedSpread_size (S : TX K mg) : NoAttr K (He.ga K "GuessedSpread") "size" := He.noat_ok (S.fact 110 (f := .noat "GuessedSpread" "size") rfl)
theorem na_GuessedSpread_totals (S : TX K mg) : NoAttr K (He.ga K "GuessedSpread") "totals" := He.noat_ok (S.fact 111 (f := .noat "GuessedSpread" "totals") rfl)
theorem na_GuessedSpread_pairs (S : TX K mg) : NoAttr K (He.ga K "GuessedSpread") "pairs" := He.noat_ok (S.fact 112 (f := .noat "GuessedSpread" "pairs") rfl)
theorem mkr_Reading (S : TX K mg) : Mk K (He.ga K "Reading") (He.ma K (He.ga K "Reading") "__init__") := He.mkr_ok (S.fact 113 (f := .mkr "Reading") rfl)
theorem na_Reading_told_signs (S : TX K mg) : NoAttr K (He.ga K "Reading") "told_signs" := He.noat_ok (S.fact 114 (f := .noat "Reading" "told_signs") rfl)
theorem na_Reading_design (S : TX K mg) : NoAttr K (He.ga K "Reading") "design" := He.noat_ok (S.fact 115 (f := .noat "Reading" "design") rfl)
theorem na_Reading_powers (S : TX K mg) : NoAttr K (He.ga K "Reading") "powers" := He.noat_ok (S.fact 116 (f := .noat "Reading" "powers") rfl)
theorem na_Reading_cursor (S : TX K mg) : NoAttr K (He.ga K "Reading") "cursor" := He.noat_ok (S.fact 117 (f := .noat "Reading" "cursor") rfl)
theorem na_Reading_ordered (S : TX K mg) : NoAttr K (He.ga K "Reading") "ordered" := He.noat_ok (S.fact 118 (f := .noat "Reading" "ordered") rfl)
theorem na_Reading_amounts (S : TX K mg) : NoAttr K (He.ga K "Reading") "amounts" := He.noat_ok (S.fact 119 (f := .noat "Reading" "amounts") rfl)
theorem na_Reading_minus (S : TX K mg) : NoAttr K (He.ga K "Reading") "minus" := He.noat_ok (S.fact 120 (f := .noat "Reading" "minus") rfl)
theorem na_Reading_lacking (S : TX K mg) : NoAttr K (He.ga K "Reading") "lacking" := He.noat_ok (S.fact 121 (f := .noat "Reading" "lacking") rfl)
theorem na_Reading_ended (S : TX K mg) : NoAttr K (He.ga K "Reading") "ended" := He.noat_ok (S.fact 122 (f := .noat "Reading" "ended") rfl)
theorem me_Field_height (S : TX K mg) : Meth K (He.ga K "Field") "height" (He.ma K (He.ga K "Field") "height") := He.meth_ok (S.fact 123 (f := .meth "Field" "height") rfl)
theorem me_Field_width (S : TX K mg) : Meth K (He.ga K "Field") "width" (He.ma K (He.ga K "Field") "width") := He.meth_ok (S.fact 124 (f := .meth "Field" "width") rfl)
theorem me_Field_rows (S : TX K mg) : Meth K (He.ga K "Field") "rows" (He.ma K (He.ga K "Field") "rows") := He.meth_ok (S.fact 125 (f := .meth "Field" "rows") rfl)
theorem me_Field_flat (S : TX K mg) : Meth K (He.ga K "Field") "flat" (He.ma K (He.ga K "Field") "flat") := He.meth_ok (S.fact 126 (f := .meth "Field" "flat") rfl)
theorem me_Field_places (S : TX K mg) : Meth K (He.ga K "Field") "places" (He.ma K (He.ga K "Field") "places") := He.meth_ok (S.fact 127 (f := .meth "Field" "places") rfl)
theorem me_Field_is_place (S : TX K mg) : Meth K (He.ga K "Field") "is_place" (He.ma K (He.ga K "Field") "is_place") := He.meth_ok (S.fact 128 (f := .meth "Field" "is_place") rfl)
theorem me_Field_at (S : TX K mg) : Meth K (He.ga K "Field") "at" (He.ma K (He.ga K "Field") "at") := He.meth_ok (S.fact 129 (f := .meth "Field" "at") rfl)
theorem me_Sums_word (S : TX K mg) : Meth K (He.ga K "Sums") "word" (He.ma K (He.ga K "Sums") "word") := He.meth_ok (S.fact 130 (f := .meth "Sums" "word") rfl)
theorem me_Sums_parted (S : TX K mg) : Meth K (He.ga K "Sums") "parted" (He.ma K (He.ga K "Sums") "parted") := He.meth_ok (S.fact 131 (f := .meth "Sums" "parted") rfl)
theorem me_Sums_joined (S : TX K mg) : Meth K (He.ga K "Sums") "joined" (He.ma K (He.ga K "Sums") "joined") := He.meth_ok (S.fact 132 (f := .meth "Sums" "joined") rfl)
theorem me_Halves_word (S : TX K mg) : Meth K (He.ga K "Halves") "word" (He.ma K (He.ga K "Halves") "word") := He.meth_ok (S.fact 133 (f := .meth "Halves" "word") rfl)
theorem me_Halves_parted (S : TX K mg) : Meth K (He.ga K "Halves") "parted" (He.ma K (He.ga K "Halves") "parted") := He.meth_ok (S.fact 134 (f := .meth "Halves" "parted") rfl)
theorem me_Halves_joined (S : TX K mg) : Meth K (He.ga K "Halves") "joined" (He.ma K (He.ga K "Halves") "joined") := He.meth_ok (S.fact 135 (f := .meth "Halves" "joined") rfl)
theorem me_Guessed_word (S : TX K mg) : Meth K (He.ga K "Guessed") "word" (He.ma K (He.ga K "Guessed") "word") := He.meth_ok (S.fact 136 (f := .meth "Guessed" "word") rfl)
theorem me_Guessed_parted (S : TX K mg) : Meth K (He.ga K "Guessed") "parted" (He.ma K (He.ga K "Guessed") "parted") := He.meth_ok (S.fact 137 (f := .meth "Guessed" "parted") rfl)
theorem me_Guessed_joined (S : TX K mg) : Meth K (He.ga K "Guessed") "joined" (He.ma K (He.ga K "Guessed") "joined") := He.meth_ok (S.fact 138 (f := .meth "Guessed" "joined") rfl)
theorem me_Leaning_word (S : TX K mg) : Meth K (He.ga K "Leaning") "word" (He.ma K (He.ga K "Leaning") "word") := He.meth_ok (S.fact 139 (f := .meth "Leaning" "word") rfl)
theorem me_Leaning_parted (S : TX K mg) : Meth K (He.ga K "Leaning") "parted" (He.ma K (He.ga K "Leaning") "parted") := He.meth_ok (S.fact 140 (f := .meth "Leaning" "parted") rfl)
theorem me_Leaning_joined (S : TX K mg) : Meth K (He.ga K "Leaning") "joined" (He.ma K (He.ga K "Leaning") "joined") := He.meth_ok (S.fact 141 (f := .meth "Leaning" "joined") rfl)
theorem me_Spread_sum_places (S : TX K mg) : Meth K (He.ga K "Spread") "sum_places" (He.ma K (He.ga K "Spread") "sum_places") := He.meth_ok (S.fact 142 (f := .meth "Spread" "sum_places") rfl)
theorem me_Spread_difference_places (S : TX K mg) : Meth K (He.ga K "Spread") "difference_places" (He.ma K (He.ga K "Spread") "difference_places") := He.meth_ok (S.fact 143 (f := .meth "Spread" "difference_places") rfl)
theorem me_Spread_first_needs (S : TX K mg) : Meth K (He.ga K "Spread") "first_needs" (He.ma K (He.ga K "Spread") "first_needs") := He.meth_ok (S.fact 144 (f := .meth "Spread" "first_needs") rfl)
theorem me_Spread_second_needs (S : TX K mg) : Meth K (He.ga K "Spread") "second_needs" (He.ma K (He.ga K "Spread") "second_needs") := He.meth_ok (S.fact 145 (f := .meth "Spread" "second_needs") rfl)
theorem me_Spread_spread_at (S : TX K mg) : Meth K (He.ga K "Spread") "spread_at" (He.ma K (He.ga K "Spread") "spread_at") := He.meth_ok (S.fact 146 (f := .meth "Spread" "spread_at") rfl)
theorem me_Spread_back_at (S : TX K mg) : Meth K (He.ga K "Spread") "back_at" (He.ma K (He.ga K "Spread") "back_at") := He.meth_ok (S.fact 147 (f := .meth "Spread" "back_at") rfl)
theorem me_LeaningSpread_near_sums (S : TX K mg) : Meth K (He.ga K "LeaningSpread") "near_sums" (He.ma K (He.ga K "LeaningSpread") "near_sums") := He.meth_ok (S.fact 148 (f := .meth "LeaningSpread" "near_sums") rfl)
theorem me_LeaningSpread_difference_places (S : TX K mg) : Meth K (He.ga K "LeaningSpread") "difference_places" (He.ma K (He.ga K "LeaningSpread") "difference_places") := He.meth_ok (S.fact 149 (f := .meth "LeaningSpread" "difference_places") rfl)
theorem me_LeaningSpread_first_needs (S : TX K mg) : Meth K (He.ga K "LeaningSpread") "first_needs" (He.ma K (He.ga K "LeaningSpread") "first_needs") := He.meth_ok (S.fact 150 (f := .meth "LeaningSpread" "first_needs") rfl)
theorem me_GuessedSpread_near_differences (S : TX K mg) : Meth K (He.ga K "GuessedSpread") "near_differences" (He.ma K (He.ga K "GuessedSpread") "near_differences") := He.meth_ok (S.fact 151 (f := .meth "GuessedSpread" "near_differences") rfl)
theorem me_GuessedSpread_sum_places (S : TX K mg) : Meth K (He.ga K "GuessedSpread") "sum_places" (He.ma K (He.ga K "GuessedSpread") "sum_places") := He.meth_ok (S.fact 152 (f := .meth "GuessedSpread" "sum_places") rfl)
theorem me_GuessedSpread_difference_places (S : TX K mg) : Meth K (He.ga K "GuessedSpread") "difference_places" (He.ma K (He.ga K "GuessedSpread") "difference_places") := He.meth_ok (S.fact 153 (f := .meth "GuessedSpread" "difference_places") rfl)
theorem me_GuessedSpread_first_needs (S : TX K mg) : Meth K (He.ga K "GuessedSpread") "first_needs" (He.ma K (He.ga K "GuessedSpread") "first_needs") := He.meth_ok (S.fact 154 (f := .meth "GuessedSpread" "first_needs") rfl)
theorem me_GuessedSpread_second_needs (S : TX K mg) : Meth K (He.ga K "GuessedSpread") "second_needs" (He.ma K (He.ga K "GuessedSpread") "second_needs") := He.meth_ok (S.fact 155 (f := .meth "GuessedSpread" "second_needs") rfl)
theorem me_Plan_height (S : TX K mg) : Meth K (He.ga K "Plan") "height" (He.ma K (He.ga K "Plan") "height") := He.meth_ok (S.fact 156 (f := .meth "Plan" "height") rfl)
theorem me_Plan_width (S : TX K mg) : Meth K (He.ga K "Plan") "width" (He.ma K (He.ga K "Plan") "width") := He.meth_ok (S.fact 157 (f := .meth "Plan" "width") rfl)
theorem me_Plan_rule (S : TX K mg) : Meth K (He.ga K "Plan") "rule" (He.ma K (He.ga K "Plan") "rule") := He.meth_ok (S.fact 158 (f := .meth "Plan" "rule") rfl)
theorem me_Plan_way (S : TX K mg) : Meth K (He.ga K "Plan") "way" (He.ma K (He.ga K "Plan") "way") := He.meth_ok (S.fact 159 (f := .meth "Plan" "way") rfl)
theorem me_Plan_steps (S : TX K mg) : Meth K (He.ga K "Plan") "steps" (He.ma K (He.ga K "Plan") "steps") := He.meth_ok (S.fact 160 (f := .meth "Plan" "steps") rfl)
theorem me_Plan_corner (S : TX K mg) : Meth K (He.ga K "Plan") "corner" (He.ma K (He.ga K "Plan") "corner") := He.meth_ok (S.fact 161 (f := .meth "Plan" "corner") rfl)
theorem me_Plan_step_parts (S : TX K mg) : Meth K (He.ga K "Plan") "step_parts" (He.ma K (He.ga K "Plan") "step_parts") := He.meth_ok (S.fact 162 (f := .meth "Plan" "step_parts") rfl)
theorem me_Plan_parts (S : TX K mg) : Meth K (He.ga K "Plan") "parts" (He.ma K (He.ga K "Plan") "parts") := He.meth_ok (S.fact 163 (f := .meth "Plan" "parts") rfl)
theorem me_Plan_order (S : TX K mg) : Meth K (He.ga K "Plan") "order" (He.ma K (He.ga K "Plan") "order") := He.meth_ok (S.fact 164 (f := .meth "Plan" "order") rfl)
theorem me_Reading_plan (S : TX K mg) : Meth K (He.ga K "Reading") "plan" (He.ma K (He.ga K "Reading") "plan") := He.meth_ok (S.fact 165 (f := .meth "Reading" "plan") rfl)
theorem me_Reading_numbers (S : TX K mg) : Meth K (He.ga K "Reading") "numbers" (He.ma K (He.ga K "Reading") "numbers") := He.meth_ok (S.fact 166 (f := .meth "Reading" "numbers") rfl)
theorem me_Reading_unread (S : TX K mg) : Meth K (He.ga K "Reading") "unread" (He.ma K (He.ga K "Reading") "unread") := He.meth_ok (S.fact 167 (f := .meth "Reading" "unread") rfl)
theorem me_Reading_laid (S : TX K mg) : Meth K (He.ga K "Reading") "laid" (He.ma K (He.ga K "Reading") "laid") := He.meth_ok (S.fact 168 (f := .meth "Reading" "laid") rfl)
theorem me_Reading_sign_of (S : TX K mg) : Meth K (He.ga K "Reading") "sign_of" (He.ma K (He.ga K "Reading") "sign_of") := He.meth_ok (S.fact 169 (f := .meth "Reading" "sign_of") rfl)
theorem me_Reading_read_planes (S : TX K mg) : Meth K (He.ga K "Reading") "read_planes" (He.ma K (He.ga K "Reading") "read_planes") := He.meth_ok (S.fact 170 (f := .meth "Reading" "read_planes") rfl)
theorem me_Reading_read_plane (S : TX K mg) : Meth K (He.ga K "Reading") "read_plane" (He.ma K (He.ga K "Reading") "read_plane") := He.meth_ok (S.fact 171 (f := .meth "Reading" "read_plane") rfl)
theorem me_Reading_read_check (S : TX K mg) : Meth K (He.ga K "Reading") "read_check" (He.ma K (He.ga K "Reading") "read_check") := He.meth_ok (S.fact 172 (f := .meth "Reading" "read_check") rfl)
theorem me_SumCarrier_carried_on (S : TX K mg) : Meth K (He.ga K "SumCarrier") "carried_on" (He.ma K (He.ga K "SumCarrier") "carried_on") := He.meth_ok (S.fact 173 (f := .meth "SumCarrier" "carried_on") rfl)
theorem me_HalfCarrier_carried_on (S : TX K mg) : Meth K (He.ga K "HalfCarrier") "carried_on" (He.ma K (He.ga K "HalfCarrier") "carried_on") := He.meth_ok (S.fact 174 (f := .meth "HalfCarrier" "carried_on") rfl)
theorem me_GuessCarrier_carried_on (S : TX K mg) : Meth K (He.ga K "GuessCarrier") "carried_on" (He.ma K (He.ga K "GuessCarrier") "carried_on") := He.meth_ok (S.fact 175 (f := .meth "GuessCarrier" "carried_on") rfl)
theorem me_LeanCarrier_carried_on (S : TX K mg) : Meth K (He.ga K "LeanCarrier") "carried_on" (He.ma K (He.ga K "LeanCarrier") "carried_on") := He.meth_ok (S.fact 176 (f := .meth "LeanCarrier" "carried_on") rfl)
theorem me_LeaningSpread_sum_places (S : TX K mg) : Meth K (He.ga K "LeaningSpread") "sum_places" (He.ma K (He.ga K "LeaningSpread") "sum_places") := He.meth_ok (S.fact 177 (f := .meth "LeaningSpread" "sum_places") rfl)
theorem me_LeaningSpread_second_needs (S : TX K mg) : Meth K (He.ga K "LeaningSpread") "second_needs" (He.ma K (He.ga K "LeaningSpread") "second_needs") := He.meth_ok (S.fact 178 (f := .meth "LeaningSpread" "second_needs") rfl)
theorem me_LeaningSpread_spread_at (S : TX K mg) : Meth K (He.ga K "LeaningSpread") "spread_at" (He.ma K (He.ga K "LeaningSpread") "spread_at") := He.meth_ok (S.fact 179 (f := .meth "LeaningSpread" "spread_at") rfl)
theorem me_LeaningSpread_back_at (S : TX K mg) : Meth K (He.ga K "LeaningSpread") "back_at" (He.ma K (He.ga K "LeaningSpread") "back_at") := He.meth_ok (S.fact 180 (f := .meth "LeaningSpread" "back_at") rfl)
theorem me_GuessedSpread_spread_at (S : TX K mg) : Meth K (He.ga K "GuessedSpread") "spread_at" (He.ma K (He.ga K "GuessedSpread") "spread_at") := He.meth_ok (S.fact 181 (f := .meth "GuessedSpread" "spread_at") rfl)
theorem me_GuessedSpread_back_at (S : TX K mg) : Meth K (He.ga K "GuessedSpread") "back_at" (He.ma K (He.ga K "GuessedSpread") "back_at") := He.meth_ok (S.fact 182 (f := .meth "GuessedSpread" "back_at") rfl)
theorem int_FIGURES (S : TX K mg) : ∃ t, mg "FIGURES" = some (.int 999999999999999 t) := S.int (S.fact 183 (f := .int "FIGURES" 999999999999999) rfl)
theorem int_PICTURE (S : TX K mg) : ∃ t, mg "PICTURE" = some (.int 100000 t) := S.int (S.fact 184 (f := .int "PICTURE" 100000) rfl)
theorem int_NUMBER (S : TX K mg) : ∃ t, mg "NUMBER" = some (.int 1000000000 t) := S.int (S.fact 185 (f := .int "NUMBER" 1000000000) rfl)
theorem int_MOST_PLANES (S : TX K mg) : ∃ t, mg "MOST_PLANES" = some (.int 30 t) := S.int (S.fact 186 (f := .int "MOST_PLANES" 30) rfl)
theorem int_MOST_ERROR (S : TX K mg) : ∃ t, mg "MOST_ERROR" = some (.int 1073741824 t) := S.int (S.fact 187 (f := .int "MOST_ERROR" 1073741824) rfl)
theorem fr_len (S : TX K mg) : mg "len" = none := S.free (S.fact 188 (f := .free "len") rfl)
theorem fr_range (S : TX K mg) : mg "range" = none := S.free (S.fact 189 (f := .free "range") rfl)
theorem fr_isinstance (S : TX K mg) : mg "isinstance" = none := S.free (S.fact 190 (f := .free "isinstance") rfl)
theorem fr_abs (S : TX K mg) : mg "abs" = none := S.free (S.fact 191 (f := .free "abs") rfl)
theorem fr_max (S : TX K mg) : mg "max" = none := S.free (S.fact 192 (f := .free "max") rfl)
theorem fr_min (S : TX K mg) : mg "min" = none := S.free (S.fact 193 (f := .free "min") rfl)
theorem fr_int (S : TX K mg) : mg "int" = none := S.free (S.fact 194 (f := .free "int") rfl)
theorem fr_str (S : TX K mg) : mg "str" = none := S.free (S.fact 195 (f := .free "str") rfl)
theorem fr_ord (S : TX K mg) : mg "ord" = none := S.free (S.fact 196 (f := .free "ord") rfl)
theorem fr_sorted (S : TX K mg) : mg "sorted" = none := S.free (S.fact 197 (f := .free "sorted") rfl)
theorem fr_set (S : TX K mg) : mg "set" = none := S.free (S.fact 198 (f := .free "set") rfl)
theorem fr_list (S : TX K mg) : mg "list" = none := S.free (S.fact 199 (f := .free "list") rfl)
theorem fr_dict (S : TX K mg) : mg "dict" = none := S.free (S.fact 200 (f := .free "dict") rfl)
theorem fr_enumerate (S : TX K mg) : mg "enumerate" = none := S.free (S.fact 201 (f := .free "enumerate") rfl)
theorem fr_zip (S : TX K mg) : mg "zip" = none := S.free (S.fact 202 (f := .free "zip") rfl)
theorem fr_reversed (S : TX K mg) : mg "reversed" = none := S.free (S.fact 203 (f := .free "reversed") rfl)
theorem fr_repr (S : TX K mg) : mg "repr" = none := S.free (S.fact 204 (f := .free "repr") rfl)
theorem fr_bool (S : TX K mg) : mg "bool" = none := S.free (S.fact 205 (f := .free "bool") rfl)
theorem fr_tuple (S : TX K mg) : mg "tuple" = none := S.free (S.fact 206 (f := .free "tuple") rfl)
theorem F_is_whole (S : TX K mg) : ∃ fd, FunD K "is_whole" "is_whole" (defArgs s_is_whole) (defBody s_is_whole) (defScope s_is_whole) [] [] (He.ga K "is_whole") fd := S.def_ 0 (d := d_is_whole) rfl
theorem F_is_row (S : TX K mg) : ∃ fd, FunD K "is_row" "is_row" (defArgs s_is_row) (defBody s_is_row) (defScope s_is_row) [] [] (He.ga K "is_row") fd := S.def_ 1 (d := d_is_row) rfl
theorem F_are_rows (S : TX K mg) : ∃ fd, FunD K "are_rows" "are_rows" (defArgs s_are_rows) (defBody s_are_rows) (defScope s_are_rows) [] [] (He.ga K "are_rows") fd := S.def_ 2 (d := d_are_rows) rfl
theorem F_Field_init (S : TX K mg) : ∃ fd, FunD K "__init__" "Field.__init__" (defArgs s_Field_init) (defBody s_Field_init) (defScope s_Field_init) [] [] (He.ma K (He.ga K "Field") "__init__") fd := S.def_ 3 (d := d_Field_init) rfl
theorem F_Field_height (S : TX K mg) : ∃ fd, FunD K "height" "Field.height" (defArgs s_Field_height) (defBody s_Field_height) (defScope s_Field_height) [] [] (He.ma K (He.ga K "Field") "height") fd := S.def_ 4 (d := d_Field_height) rfl
theorem F_Field_width (S : TX K mg) : ∃ fd, FunD K "width" "Field.width" (defArgs s_Field_width) (defBody s_Field_width) (defScope s_Field_width) [] [] (He.ma K (He.ga K "Field") "width") fd := S.def_ 5 (d := d_Field_width) rfl
theorem F_Field_rows (S : TX K mg) : ∃ fd, FunD K "rows" "Field.rows" (defArgs s_Field_rows) (defBody s_Field_rows) (defScope s_Field_rows) [] [] (He.ma K (He.ga K "Field") "rows") fd := S.def_ 6 (d := d_Field_rows) rfl
theorem F_Field_flat (S : TX K mg) : ∃ fd, FunD K "flat" "Field.flat" (defArgs s_Field_flat) (defBody s_Field_flat) (defScope s_Field_flat) [] [] (He.ma K (He.ga K "Field") "flat") fd := S.def_ 7 (d := d_Field_flat) rfl
theorem F_Field_places (S : TX K mg) : ∃ fd, FunD K "places" "Field.places" (defArgs s_Field_places) (defBody s_Field_places) (defScope s_Field_places) [] [] (He.ma K (He.ga K "Field") "places") fd := S.def_ 8 (d := d_Field_places) rfl
theorem F_Field_is_place (S : TX K mg) : ∃ fd, FunD K "is_place" "Field.is_place" (defArgs s_Field_is_place) (defBody s_Field_is_place) (defScope s_Field_is_place) [] [] (He.ma K (He.ga K "Field") "is_place") fd := S.def_ 9 (d := d_Field_is_place) rfl
theorem F_Field_at (S : TX K mg) : ∃ fd, FunD K "at" "Field.at" (defArgs s_Field_at) (defBody s_Field_at) (defScope s_Field_at) [] [] (He.ma K (He.ga K "Field") "at") fd := S.def_ 10 (d := d_Field_at) rfl
theorem F_need_field (S : TX K mg) : ∃ fd, FunD K "need_field" "need_field" (defArgs s_need_field) (defBody s_need_field) (defScope s_need_field) [] [] (He.ga K "need_field") fd := S.def_ 11 (d := d_need_field) rfl
theorem F_need_picture (S : TX K mg) : ∃ fd, FunD K "need_picture" "need_picture" (defArgs s_need_picture) (defBody s_need_picture) (defScope s_need_picture) [] [] (He.ga K "need_picture") fd := S.def_ 12 (d := d_need_picture) rfl
theorem F_need_numbers (S : TX K mg) : ∃ fd, FunD K "need_numbers" "need_numbers" (defArgs s_need_numbers) (defBody s_need_numbers) (defScope s_need_numbers) [] [] (He.ga K "need_numbers") fd := S.def_ 13 (d := d_need_numbers) rfl
theorem F_rows_halved (S : TX K mg) : ∃ fd, FunD K "rows_halved" "rows_halved" (defArgs s_rows_halved) (defBody s_rows_halved) (defScope s_rows_halved) [] [] (He.ga K "rows_halved") fd := S.def_ 14 (d := d_rows_halved) rfl
theorem F_rows_back (S : TX K mg) : ∃ fd, FunD K "rows_back" "rows_back" (defArgs s_rows_back) (defBody s_rows_back) (defScope s_rows_back) [] [] (He.ga K "rows_back") fd := S.def_ 15 (d := d_rows_back) rfl
theorem F_pillars_halved (S : TX K mg) : ∃ fd, FunD K "pillars_halved" "pillars_halved" (defArgs s_pillars_halved) (defBody s_pillars_halved) (defScope s_pillars_halved) [] [] (He.ga K "pillars_halved") fd := S.def_ 16 (d := d_pillars_halved) rfl
theorem F_pillars_back (S : TX K mg) : ∃ fd, FunD K "pillars_back" "pillars_back" (defArgs s_pillars_back) (defBody s_pillars_back) (defScope s_pillars_back) [] [] (He.ga K "pillars_back") fd := S.def_ 17 (d := d_pillars_back) rfl
theorem F_step_halved (S : TX K mg) : ∃ fd, FunD K "step_halved" "step_halved" (defArgs s_step_halved) (defBody s_step_halved) (defScope s_step_halved) [] [] (He.ga K "step_halved") fd := S.def_ 18 (d := d_step_halved) rfl
theorem F_step_back (S : TX K mg) : ∃ fd, FunD K "step_back" "step_back" (defArgs s_step_back) (defBody s_step_back) (defScope s_step_back) [] [] (He.ga K "step_back") fd := S.def_ 19 (d := d_step_back) rfl
theorem F_halved (S : TX K mg) : ∃ fd, FunD K "halved" "halved" (defArgs s_halved) (defBody s_halved) (defScope s_halved) [] [] (He.ga K "halved") fd := S.def_ 20 (d := d_halved) rfl
theorem F_put_back (S : TX K mg) : ∃ fd, FunD K "put_back" "put_back" (defArgs s_put_back) (defBody s_put_back) (defScope s_put_back) [] [] (He.ga K "put_back") fd := S.def_ 21 (d := d_put_back) rfl
theorem F_coarse (S : TX K mg) : ∃ fd, FunD K "coarse" "coarse" (defArgs s_coarse) (defBody s_coarse) (defScope s_coarse) [] [] (He.ga K "coarse") fd := S.def_ 22 (d := d_coarse) rfl
theorem F_pairs_of (S : TX K mg) : ∃ fd, FunD K "pairs_of" "pairs_of" (defArgs s_pairs_of) (defBody s_pairs_of) (defScope s_pairs_of) [] [] (He.ga K "pairs_of") fd := S.def_ 23 (d := d_pairs_of) rfl
theorem F_Sums_word (S : TX K mg) : ∃ fd, FunD K "word" "Sums.word" (defArgs s_Sums_word) (defBody s_Sums_word) (defScope s_Sums_word) [] [] (He.ma K (He.ga K "Sums") "word") fd := S.def_ 24 (d := d_Sums_word) rfl
theorem F_Sums_parted (S : TX K mg) : ∃ fd, FunD K "parted" "Sums.parted" (defArgs s_Sums_parted) (defBody s_Sums_parted) (defScope s_Sums_parted) [] [] (He.ma K (He.ga K "Sums") "parted") fd := S.def_ 25 (d := d_Sums_parted) rfl
theorem F_Sums_joined (S : TX K mg) : ∃ fd, FunD K "joined" "Sums.joined" (defArgs s_Sums_joined) (defBody s_Sums_joined) (defScope s_Sums_joined) [] [] (He.ma K (He.ga K "Sums") "joined") fd := S.def_ 26 (d := d_Sums_joined) rfl
theorem F_Halves_word (S : TX K mg) : ∃ fd, FunD K "word" "Halves.word" (defArgs s_Halves_word) (defBody s_Halves_word) (defScope s_Halves_word) [] [] (He.ma K (He.ga K "Halves") "word") fd := S.def_ 27 (d := d_Halves_word) rfl
theorem F_Halves_parted (S : TX K mg) : ∃ fd, FunD K "parted" "Halves.parted" (defArgs s_Halves_parted) (defBody s_Halves_parted) (defScope s_Halves_parted) [] [] (He.ma K (He.ga K "Halves") "parted") fd := S.def_ 28 (d := d_Halves_parted) rfl
theorem F_Halves_joined (S : TX K mg) : ∃ fd, FunD K "joined" "Halves.joined" (defArgs s_Halves_joined) (defBody s_Halves_joined) (defScope s_Halves_joined) [] [] (He.ma K (He.ga K "Halves") "joined") fd := S.def_ 29 (d := d_Halves_joined) rfl
theorem F_half_sums (S : TX K mg) : ∃ fd, FunD K "half_sums" "half_sums" (defArgs s_half_sums) (defBody s_half_sums) (defScope s_half_sums) [] [] (He.ga K "half_sums") fd := S.def_ 30 (d := d_half_sums) rfl
theorem F_half_row (S : TX K mg) : ∃ fd, FunD K "half_row" "half_row" (defArgs s_half_row) (defBody s_half_row) (defScope s_half_row) [] [] (He.ga K "half_row") fd := S.def_ 31 (d := d_half_row) rfl
theorem F_nearest (S : TX K mg) : ∃ fd, FunD K "nearest" "nearest" (defArgs s_nearest) (defBody s_nearest) (defScope s_nearest) [] [] (He.ga K "nearest") fd := S.def_ 32 (d := d_nearest) rfl
theorem F_Guessed_word (S : TX K mg) : ∃ fd, FunD K "word" "Guessed.word" (defArgs s_Guessed_word) (defBody s_Guessed_word) (defScope s_Guessed_word) [] [] (He.ma K (He.ga K "Guessed") "word") fd := S.def_ 33 (d := d_Guessed_word) rfl
theorem F_Guessed_parted (S : TX K mg) : ∃ fd, FunD K "parted" "Guessed.parted" (defArgs s_Guessed_parted) (defBody s_Guessed_parted) (defScope s_Guessed_parted) [] [] (He.ma K (He.ga K "Guessed") "parted") fd := S.def_ 34 (d := d_Guessed_parted) rfl
theorem F_Guessed_joined (S : TX K mg) : ∃ fd, FunD K "joined" "Guessed.joined" (defArgs s_Guessed_joined) (defBody s_Guessed_joined) (defScope s_Guessed_joined) [] [] (He.ma K (He.ga K "Guessed") "joined") fd := S.def_ 35 (d := d_Guessed_joined) rfl
theorem F_slopes (S : TX K mg) : ∃ fd, FunD K "slopes" "slopes" (defArgs s_slopes) (defBody s_slopes) (defScope s_slopes) [] [] (He.ga K "slopes") fd := S.def_ 36 (d := d_slopes) rfl
theorem F_Leaning_word (S : TX K mg) : ∃ fd, FunD K "word" "Leaning.word" (defArgs s_Leaning_word) (defBody s_Leaning_word) (defScope s_Leaning_word) [] [] (He.ma K (He.ga K "Leaning") "word") fd := S.def_ 37 (d := d_Leaning_word) rfl
theorem F_Leaning_parted (S : TX K mg) : ∃ fd, FunD K "parted" "Leaning.parted" (defArgs s_Leaning_parted) (defBody s_Leaning_parted) (defScope s_Leaning_parted) [] [] (He.ma K (He.ga K "Leaning") "parted") fd := S.def_ 38 (d := d_Leaning_parted) rfl
theorem F_Leaning_joined (S : TX K mg) : ∃ fd, FunD K "joined" "Leaning.joined" (defArgs s_Leaning_joined) (defBody s_Leaning_joined) (defScope s_Leaning_joined) [] [] (He.ma K (He.ga K "Leaning") "joined") fd := S.def_ 39 (d := d_Leaning_joined) rfl
theorem F_words (S : TX K mg) : ∃ fd, FunD K "words" "words" (defArgs s_words) (defBody s_words) (defScope s_words) [] [] (He.ga K "words") fd := S.def_ 40 (d := d_words) rfl
theorem F_rule_of (S : TX K mg) : ∃ fd, FunD K "rule_of" "rule_of" (defArgs s_rule_of) (defBody s_rule_of) (defScope s_rule_of) [] [] (He.ga K "rule_of") fd := S.def_ 41 (d := d_rule_of) rfl
theorem F_Spread_init (S : TX K mg) : ∃ fd, FunD K "__init__" "Spread.__init__" (defArgs s_Spread_init) (defBody s_Spread_init) (defScope s_Spread_init) [] [] (He.ma K (He.ga K "Spread") "__init__") fd := S.def_ 42 (d := d_Spread_init) rfl
theorem F_Spread_sum_places (S : TX K mg) : ∃ fd, FunD K "sum_places" "Spread.sum_places" (defArgs s_Spread_sum_places) (defBody s_Spread_sum_places) (defScope s_Spread_sum_places) [] [] (He.ma K (He.ga K "Spread") "sum_places") fd := S.def_ 43 (d := d_Spread_sum_places) rfl
theorem F_Spread_difference_places (S : TX K mg) : ∃ fd, FunD K "difference_places" "Spread.difference_places" (defArgs s_Spread_difference_places) (defBody s_Spread_difference_places) (defScope s_Spread_difference_places) [] [] (He.ma K (He.ga K "Spread") "difference_places") fd := S.def_ 44 (d := d_Spread_difference_places) rfl
theorem F_Spread_first_needs (S : TX K mg) : ∃ fd, FunD K "first_needs" "Spread.first_needs" (defArgs s_Spread_first_needs) (defBody s_Spread_first_needs) (defScope s_Spread_first_needs) [] [] (He.ma K (He.ga K "Spread") "first_needs") fd := S.def_ 45 (d := d_Spread_first_needs) rfl
theorem F_Spread_second_needs (S : TX K mg) : ∃ fd, FunD K "second_needs" "Spread.second_needs" (defArgs s_Spread_second_needs) (defBody s_Spread_second_needs) (defScope s_Spread_second_needs) [] [] (He.ma K (He.ga K "Spread") "second_needs") fd := S.def_ 46 (d := d_Spread_second_needs) rfl
theorem F_Spread_spread_at (S : TX K mg) : ∃ fd, FunD K "spread_at" "Spread.spread_at" (defArgs s_Spread_spread_at) (defBody s_Spread_spread_at) (defScope s_Spread_spread_at) [] [] (He.ma K (He.ga K "Spread") "spread_at") fd := S.def_ 47 (d := d_Spread_spread_at) rfl
theorem F_Spread_back_at (S : TX K mg) : ∃ fd, FunD K "back_at" "Spread.back_at" (defArgs s_Spread_back_at) (defBody s_Spread_back_at) (defScope s_Spread_back_at) [] [] (He.ma K (He.ga K "Spread") "back_at") fd := S.def_ 48 (d := d_Spread_back_at) rfl
theorem F_LeaningSpread_near_sums (S : TX K mg) : ∃ fd, FunD K "near_sums" "LeaningSpread.near_sums" (defArgs s_LeaningSpread_near_sums) (defBody s_LeaningSpread_near_sums) (defScope s_LeaningSpread_near_sums) [] [] (He.ma K (He.ga K "LeaningSpread") "near_sums") fd := S.def_ 49 (d := d_LeaningSpread_near_sums) rfl
theorem F_LeaningSpread_difference_places (S : TX K mg) : ∃ fd, FunD K "difference_places" "LeaningSpread.difference_places" (defArgs s_LeaningSpread_difference_places) (defBody s_LeaningSpread_difference_places) (defScope s_LeaningSpread_difference_places) [] [] (He.ma K (He.ga K "LeaningSpread") "difference_places") fd := S.def_ 50 (d := d_LeaningSpread_difference_places) rfl
theorem F_LeaningSpread_first_needs (S : TX K mg) : ∃ fd, FunD K "first_needs" "LeaningSpread.first_needs" (defArgs s_LeaningSpread_first_needs) (defBody s_LeaningSpread_first_needs) (defScope s_LeaningSpread_first_needs) [] [] (He.ma K (He.ga K "LeaningSpread") "first_needs") fd := S.def_ 51 (d := d_LeaningSpread_first_needs) rfl
theorem F_GuessedSpread_near_differences (S : TX K mg) : ∃ fd, FunD K "near_differences" "GuessedSpread.near_differences" (defArgs s_GuessedSpread_near_differences) (defBody s_GuessedSpread_near_differences) (defScope s_GuessedSpread_near_differences) [] [] (He.ma K (He.ga K "GuessedSpread") "near_differences") fd := S.def_ 52 (d := d_GuessedSpread_near_differences) rfl
theorem F_GuessedSpread_sum_places (S : TX K mg) : ∃ fd, FunD K "sum_places" "GuessedSpread.sum_places" (defArgs s_GuessedSpread_sum_places) (defBody s_GuessedSpread_sum_places) (defScope s_GuessedSpread_sum_places) [] [] (He.ma K (He.ga K "GuessedSpread") "sum_places") fd := S.def_ 53 (d := d_GuessedSpread_sum_places) rfl
theorem F_GuessedSpread_difference_places (S : TX K mg) : ∃ fd, FunD K "difference_places" "GuessedSpread.difference_places" (defArgs s_GuessedSpread_difference_places) (defBody s_GuessedSpread_difference_places) (defScope s_GuessedSpread_difference_places) [] [] (He.ma K (He.ga K "GuessedSpread") "difference_places") fd := S.def_ 54 (d := d_GuessedSpread_difference_places) rfl
theorem F_GuessedSpread_first_needs (S : TX K mg) : ∃ fd, FunD K "first_needs" "GuessedSpread.first_needs" (defArgs s_GuessedSpread_first_needs) (defBody s_GuessedSpread_first_needs) (defScope s_GuessedSpread_first_needs) [] [] (He.ma K (He.ga K "GuessedSpread") "first_needs") fd := S.def_ 55 (d := d_GuessedSpread_first_needs) rfl
theorem F_GuessedSpread_second_needs (S : TX K mg) : ∃ fd, FunD K "second_needs" "GuessedSpread.second_needs" (defArgs s_GuessedSpread_second_needs) (defBody s_GuessedSpread_second_needs) (defScope s_GuessedSpread_second_needs) [] [] (He.ma K (He.ga K "GuessedSpread") "second_needs") fd := S.def_ 56 (d := d_GuessedSpread_second_needs) rfl
theorem F_spread_by (S : TX K mg) : ∃ fd, FunD K "spread_by" "spread_by" (defArgs s_spread_by) (defBody s_spread_by) (defScope s_spread_by) [] [] (He.ga K "spread_by") fd := S.def_ 57 (d := d_spread_by) rfl
theorem F_need_place (S : TX K mg) : ∃ fd, FunD K "need_place" "need_place" (defArgs s_need_place) (defBody s_need_place) (defScope s_need_place) [] [] (He.ga K "need_place") fd := S.def_ 58 (d := d_need_place) rfl
theorem F_in_rows (S : TX K mg) : ∃ fd, FunD K "in_rows" "in_rows" (defArgs s_in_rows) (defBody s_in_rows) (defScope s_in_rows) [] [] (He.ga K "in_rows") fd := S.def_ 59 (d := d_in_rows) rfl
theorem F_in_pillars (S : TX K mg) : ∃ fd, FunD K "in_pillars" "in_pillars" (defArgs s_in_pillars) (defBody s_in_pillars) (defScope s_in_pillars) [] [] (He.ga K "in_pillars") fd := S.def_ 60 (d := d_in_pillars) rfl
theorem F_spread_tables (S : TX K mg) : ∃ fd, FunD K "spread_tables" "spread_tables" (defArgs s_spread_tables) (defBody s_spread_tables) (defScope s_spread_tables) [] [] (He.ga K "spread_tables") fd := S.def_ 61 (d := d_spread_tables) rfl
theorem F_back_tables (S : TX K mg) : ∃ fd, FunD K "back_tables" "back_tables" (defArgs s_back_tables) (defBody s_back_tables) (defScope s_back_tables) [] [] (He.ga K "back_tables") fd := S.def_ 62 (d := d_back_tables) rfl
theorem F_hangs (S : TX K mg) : ∃ fd, FunD K "hangs" "hangs" (defArgs s_hangs) (defBody s_hangs) (defScope s_hangs) [] [] (He.ga K "hangs") fd := S.def_ 63 (d := d_hangs) rfl
theorem F_needs_behind (S : TX K mg) : ∃ fd, FunD K "needs_behind" "needs_behind" (defArgs s_needs_behind) (defBody s_needs_behind) (defScope s_needs_behind) [] [] (He.ga K "needs_behind") fd := S.def_ 64 (d := d_needs_behind) rfl
theorem F_needs (S : TX K mg) : ∃ fd, FunD K "needs" "needs" (defArgs s_needs) (defBody s_needs) (defScope s_needs) [] [] (He.ga K "needs") fd := S.def_ 65 (d := d_needs) rfl
theorem F_asked_field (S : TX K mg) : ∃ fd, FunD K "asked_field" "asked_field" (defArgs s_asked_field) (defBody s_asked_field) (defScope s_asked_field) [] [] (He.ga K "asked_field") fd := S.def_ 66 (d := d_asked_field) rfl
theorem F_number_from (S : TX K mg) : ∃ fd, FunD K "number_from" "number_from" (defArgs s_number_from) (defBody s_number_from) (defScope s_number_from) [] [] (He.ga K "number_from") fd := S.def_ 67 (d := d_number_from) rfl
theorem F_place_from (S : TX K mg) : ∃ fd, FunD K "place_from" "place_from" (defArgs s_place_from) (defBody s_place_from) (defScope s_place_from) [] [] (He.ga K "place_from") fd := S.def_ 68 (d := d_place_from) rfl
theorem F_area_from (S : TX K mg) : ∃ fd, FunD K "area_from" "area_from" (defArgs s_area_from) (defBody s_area_from) (defScope s_area_from) [] [] (He.ga K "area_from") fd := S.def_ 69 (d := d_area_from) rfl
theorem F_is_size (S : TX K mg) : ∃ fd, FunD K "is_size" "is_size" (defArgs s_is_size) (defBody s_is_size) (defScope s_is_size) [] [] (He.ga K "is_size") fd := S.def_ 70 (d := d_is_size) rfl
theorem F_corners_of (S : TX K mg) : ∃ fd, FunD K "corners_of" "corners_of" (defArgs s_corners_of) (defBody s_corners_of) (defScope s_corners_of) [] [] (He.ga K "corners_of") fd := S.def_ 71 (d := d_corners_of) rfl
theorem F_Plan_init (S : TX K mg) : ∃ fd, FunD K "__init__" "Plan.__init__" (defArgs s_Plan_init) (defBody s_Plan_init) (defScope s_Plan_init) [] [] (He.ma K (He.ga K "Plan") "__init__") fd := S.def_ 72 (d := d_Plan_init) rfl
theorem F_Plan_height (S : TX K mg) : ∃ fd, FunD K "height" "Plan.height" (defArgs s_Plan_height) (defBody s_Plan_height) (defScope s_Plan_height) [] [] (He.ma K (He.ga K "Plan") "height") fd := S.def_ 73 (d := d_Plan_height) rfl
theorem F_Plan_width (S : TX K mg) : ∃ fd, FunD K "width" "Plan.width" (defArgs s_Plan_width) (defBody s_Plan_width) (defScope s_Plan_width) [] [] (He.ma K (He.ga K "Plan") "width") fd := S.def_ 74 (d := d_Plan_width) rfl
theorem F_Plan_rule (S : TX K mg) : ∃ fd, FunD K "rule" "Plan.rule" (defArgs s_Plan_rule) (defBody s_Plan_rule) (defScope s_Plan_rule) [] [] (He.ma K (He.ga K "Plan") "rule") fd := S.def_ 75 (d := d_Plan_rule) rfl
theorem F_Plan_way (S : TX K mg) : ∃ fd, FunD K "way" "Plan.way" (defArgs s_Plan_way) (defBody s_Plan_way) (defScope s_Plan_way) [] [] (He.ma K (He.ga K "Plan") "way") fd := S.def_ 76 (d := d_Plan_way) rfl
theorem F_Plan_steps (S : TX K mg) : ∃ fd, FunD K "steps" "Plan.steps" (defArgs s_Plan_steps) (defBody s_Plan_steps) (defScope s_Plan_steps) [] [] (He.ma K (He.ga K "Plan") "steps") fd := S.def_ 77 (d := d_Plan_steps) rfl
theorem F_Plan_corner (S : TX K mg) : ∃ fd, FunD K "corner" "Plan.corner" (defArgs s_Plan_corner) (defBody s_Plan_corner) (defScope s_Plan_corner) [] [] (He.ma K (He.ga K "Plan") "corner") fd := S.def_ 78 (d := d_Plan_corner) rfl
theorem F_Plan_step_parts (S : TX K mg) : ∃ fd, FunD K "step_parts" "Plan.step_parts" (defArgs s_Plan_step_parts) (defBody s_Plan_step_parts) (defScope s_Plan_step_parts) [] [] (He.ma K (He.ga K "Plan") "step_parts") fd := S.def_ 79 (d := d_Plan_step_parts) rfl
theorem F_Plan_parts (S : TX K mg) : ∃ fd, FunD K "parts" "Plan.parts" (defArgs s_Plan_parts) (defBody s_Plan_parts) (defScope s_Plan_parts) [] [] (He.ma K (He.ga K "Plan") "parts") fd := S.def_ 80 (d := d_Plan_parts) rfl
theorem F_Plan_order (S : TX K mg) : ∃ fd, FunD K "order" "Plan.order" (defArgs s_Plan_order) (defBody s_Plan_order) (defScope s_Plan_order) [] [] (He.ma K (He.ga K "Plan") "order") fd := S.def_ 81 (d := d_Plan_order) rfl
theorem F_check_of (S : TX K mg) : ∃ fd, FunD K "check_of" "check_of" (defArgs s_check_of) (defBody s_check_of) (defScope s_check_of) [] [] (He.ga K "check_of") fd := S.def_ 82 (d := d_check_of) rfl
theorem F_head_of (S : TX K mg) : ∃ fd, FunD K "head_of" "head_of" (defArgs s_head_of) (defBody s_head_of) (defScope s_head_of) [] [] (He.ga K "head_of") fd := S.def_ 83 (d := d_head_of) rfl
theorem F_planes_of (S : TX K mg) : ∃ fd, FunD K "planes_of" "planes_of" (defArgs s_planes_of) (defBody s_planes_of) (defScope s_planes_of) [] [] (He.ga K "planes_of") fd := S.def_ 84 (d := d_planes_of) rfl
theorem F_small_number (S : TX K mg) : ∃ fd, FunD K "small_number" "small_number" (defArgs s_small_number) (defBody s_small_number) (defScope s_small_number) [] [] (He.ga K "small_number") fd := S.def_ 85 (d := d_small_number) rfl
theorem F_plan_told (S : TX K mg) : ∃ fd, FunD K "plan_told" "plan_told" (defArgs s_plan_told) (defBody s_plan_told) (defScope s_plan_told) [] [] (He.ga K "plan_told") fd := S.def_ 86 (d := d_plan_told) rfl
theorem F_head_in (S : TX K mg) : ∃ fd, FunD K "head_in" "head_in" (defArgs s_head_in) (defBody s_head_in) (defScope s_head_in) [] [] (He.ga K "head_in") fd := S.def_ 87 (d := d_head_in) rfl
theorem F_Reading_init (S : TX K mg) : ∃ fd, FunD K "__init__" "Reading.__init__" (defArgs s_Reading_init) (defBody s_Reading_init) (defScope s_Reading_init) [] [] (He.ma K (He.ga K "Reading") "__init__") fd := S.def_ 88 (d := d_Reading_init) rfl
theorem F_Reading_plan (S : TX K mg) : ∃ fd, FunD K "plan" "Reading.plan" (defArgs s_Reading_plan) (defBody s_Reading_plan) (defScope s_Reading_plan) [] [] (He.ma K (He.ga K "Reading") "plan") fd := S.def_ 89 (d := d_Reading_plan) rfl
theorem F_Reading_numbers (S : TX K mg) : ∃ fd, FunD K "numbers" "Reading.numbers" (defArgs s_Reading_numbers) (defBody s_Reading_numbers) (defScope s_Reading_numbers) [] [] (He.ma K (He.ga K "Reading") "numbers") fd := S.def_ 90 (d := d_Reading_numbers) rfl
theorem F_Reading_unread (S : TX K mg) : ∃ fd, FunD K "unread" "Reading.unread" (defArgs s_Reading_unread) (defBody s_Reading_unread) (defScope s_Reading_unread) [] [] (He.ma K (He.ga K "Reading") "unread") fd := S.def_ 91 (d := d_Reading_unread) rfl
theorem F_Reading_laid (S : TX K mg) : ∃ fd, FunD K "laid" "Reading.laid" (defArgs s_Reading_laid) (defBody s_Reading_laid) (defScope s_Reading_laid) [] [] (He.ma K (He.ga K "Reading") "laid") fd := S.def_ 92 (d := d_Reading_laid) rfl
theorem F_Reading_sign_of (S : TX K mg) : ∃ fd, FunD K "sign_of" "Reading.sign_of" (defArgs s_Reading_sign_of) (defBody s_Reading_sign_of) (defScope s_Reading_sign_of) [] [] (He.ma K (He.ga K "Reading") "sign_of") fd := S.def_ 93 (d := d_Reading_sign_of) rfl
theorem F_Reading_read_planes (S : TX K mg) : ∃ fd, FunD K "read_planes" "Reading.read_planes" (defArgs s_Reading_read_planes) (defBody s_Reading_read_planes) (defScope s_Reading_read_planes) [] [] (He.ma K (He.ga K "Reading") "read_planes") fd := S.def_ 94 (d := d_Reading_read_planes) rfl
theorem F_Reading_read_plane (S : TX K mg) : ∃ fd, FunD K "read_plane" "Reading.read_plane" (defArgs s_Reading_read_plane) (defBody s_Reading_read_plane) (defScope s_Reading_read_plane) [] [] (He.ma K (He.ga K "Reading") "read_plane") fd := S.def_ 95 (d := d_Reading_read_plane) rfl
theorem F_Reading_read_check (S : TX K mg) : ∃ fd, FunD K "read_check" "Reading.read_check" (defArgs s_Reading_read_check) (defBody s_Reading_read_check) (defScope s_Reading_read_check) [] [] (He.ma K (He.ga K "Reading") "read_check") fd := S.def_ 96 (d := d_Reading_read_check) rfl
theorem F_read_signs (S : TX K mg) : ∃ fd, FunD K "read_signs" "read_signs" (defArgs s_read_signs) (defBody s_read_signs) (defScope s_read_signs) [] [] (He.ga K "read_signs") fd := S.def_ 97 (d := d_read_signs) rfl
theorem F_plane_text (S : TX K mg) : ∃ fd, FunD K "plane_text" "plane_text" (defArgs s_plane_text) (defBody s_plane_text) (defScope s_plane_text) [] [] (He.ga K "plane_text") fd := S.def_ 98 (d := d_plane_text) rfl
theorem F_signs (S : TX K mg) : ∃ fd, FunD K "signs" "signs" (defArgs s_signs) (defBody s_signs) (defScope s_signs) [] [] (He.ga K "signs") fd := S.def_ 99 (d := d_signs) rfl
theorem F_pairs_joined (S : TX K mg) : ∃ fd, FunD K "pairs_joined" "pairs_joined" (defArgs s_pairs_joined) (defBody s_pairs_joined) (defScope s_pairs_joined) [] [] (He.ga K "pairs_joined") fd := S.def_ 100 (d := d_pairs_joined) rfl
theorem F_SumCarrier_carried_on (S : TX K mg) : ∃ fd, FunD K "carried_on" "SumCarrier.carried_on" (defArgs s_SumCarrier_carried_on) (defBody s_SumCarrier_carried_on) (defScope s_SumCarrier_carried_on) [] [] (He.ma K (He.ga K "SumCarrier") "carried_on") fd := S.def_ 101 (d := d_SumCarrier_carried_on) rfl
theorem F_HalfCarrier_carried_on (S : TX K mg) : ∃ fd, FunD K "carried_on" "HalfCarrier.carried_on" (defArgs s_HalfCarrier_carried_on) (defBody s_HalfCarrier_carried_on) (defScope s_HalfCarrier_carried_on) [] [] (He.ma K (He.ga K "HalfCarrier") "carried_on") fd := S.def_ 102 (d := d_HalfCarrier_carried_on) rfl
theorem F_GuessCarrier_carried_on (S : TX K mg) : ∃ fd, FunD K "carried_on" "GuessCarrier.carried_on" (defArgs s_GuessCarrier_carried_on) (defBody s_GuessCarrier_carried_on) (defScope s_GuessCarrier_carried_on) [] [] (He.ma K (He.ga K "GuessCarrier") "carried_on") fd := S.def_ 103 (d := d_GuessCarrier_carried_on) rfl
theorem F_LeanCarrier_carried_on (S : TX K mg) : ∃ fd, FunD K "carried_on" "LeanCarrier.carried_on" (defArgs s_LeanCarrier_carried_on) (defBody s_LeanCarrier_carried_on) (defScope s_LeanCarrier_carried_on) [] [] (He.ma K (He.ga K "LeanCarrier") "carried_on") fd := S.def_ 104 (d := d_LeanCarrier_carried_on) rfl
theorem F_carrier_of (S : TX K mg) : ∃ fd, FunD K "carrier_of" "carrier_of" (defArgs s_carrier_of) (defBody s_carrier_of) (defScope s_carrier_of) [] [] (He.ga K "carrier_of") fd := S.def_ 105 (d := d_carrier_of) rfl
theorem F_need_errors (S : TX K mg) : ∃ fd, FunD K "need_errors" "need_errors" (defArgs s_need_errors) (defBody s_need_errors) (defScope s_need_errors) [] [] (He.ga K "need_errors") fd := S.def_ 106 (d := d_need_errors) rfl
theorem F_along_rows (S : TX K mg) : ∃ fd, FunD K "along_rows" "along_rows" (defArgs s_along_rows) (defBody s_along_rows) (defScope s_along_rows) [] [] (He.ga K "along_rows") fd := S.def_ 107 (d := d_along_rows) rfl
theorem F_along_pillars (S : TX K mg) : ∃ fd, FunD K "along_pillars" "along_pillars" (defArgs s_along_pillars) (defBody s_along_pillars) (defScope s_along_pillars) [] [] (He.ga K "along_pillars") fd := S.def_ 108 (d := d_along_pillars) rfl
theorem F_carried_rows (S : TX K mg) : ∃ fd, FunD K "carried_rows" "carried_rows" (defArgs s_carried_rows) (defBody s_carried_rows) (defScope s_carried_rows) [] [] (He.ga K "carried_rows") fd := S.def_ 109 (d := d_carried_rows) rfl
theorem F_worst (S : TX K mg) : ∃ fd, FunD K "worst" "worst" (defArgs s_worst) (defBody s_worst) (defScope s_worst) [] [] (He.ga K "worst") fd := S.def_ 110 (d := d_worst) rfl
theorem F_law_cell (S : TX K mg) : ∃ fd, FunD K "_law_cell" "_law_cell" (defArgs s_law_cell) (defBody s_law_cell) (defScope s_law_cell) [] [] (He.ga K "_law_cell") fd := S.def_ 111 (d := d_law_cell) rfl
theorem F_law_box (S : TX K mg) : ∃ fd, FunD K "_law_box" "_law_box" (defArgs s_law_box) (defBody s_law_box) (defScope s_law_box) [] [] (He.ga K "_law_box") fd := S.def_ 112 (d := d_law_box) rfl
theorem F_law_take (S : TX K mg) : ∃ fd, FunD K "_law_take" "_law_take" (defArgs s_law_take) (defBody s_law_take) (defScope s_law_take) [] [] (He.ga K "_law_take") fd := S.def_ 113 (d := d_law_take) rfl
theorem F_law_way (S : TX K mg) : ∃ fd, FunD K "_law_way" "_law_way" (defArgs s_law_way) (defBody s_law_way) (defScope s_law_way) [] [] (He.ga K "_law_way") fd := S.def_ 114 (d := d_law_way) rfl
theorem F_law_value (S : TX K mg) : ∃ fd, FunD K "_law_value" "_law_value" (defArgs s_law_value) (defBody s_law_value) (defScope s_law_value) [] [] (He.ga K "_law_value") fd := S.def_ 115 (d := d_law_value) rfl
theorem F_law_rows (S : TX K mg) : ∃ fd, FunD K "_law_rows" "_law_rows" (defArgs s_law_rows) (defBody s_law_rows) (defScope s_law_rows) [] [] (He.ga K "_law_rows") fd := S.def_ 116 (d := d_law_rows) rfl
theorem F_law_whole (S : TX K mg) : ∃ fd, FunD K "_law_whole" "_law_whole" (defArgs s_law_whole) (defBody s_law_whole) (defScope s_law_whole) [] [] (He.ga K "_law_whole") fd := S.def_ 117 (d := d_law_whole) rfl
theorem F_law_shape (S : TX K mg) : ∃ fd, FunD K "_law_shape" "_law_shape" (defArgs s_law_shape) (defBody s_law_shape) (defScope s_law_shape) [] [] (He.ga K "_law_shape") fd := S.def_ 118 (d := d_law_shape) rfl
theorem F_law_asked (S : TX K mg) : ∃ fd, FunD K "_law_asked" "_law_asked" (defArgs s_law_asked) (defBody s_law_asked) (defScope s_law_asked) [] [] (He.ga K "_law_asked") fd := S.def_ 119 (d := d_law_asked) rfl
theorem F_law_among (S : TX K mg) : ∃ fd, FunD K "_law_among" "_law_among" (defArgs s_law_among) (defBody s_law_among) (defScope s_law_among) [] [] (He.ga K "_law_among") fd := S.def_ 120 (d := d_law_among) rfl
theorem F_law_values_right (S : TX K mg) : ∃ fd, FunD K "_law_values_right" "_law_values_right" (defArgs s_law_values_right) (defBody s_law_values_right) (defScope s_law_values_right) [] [] (He.ga K "_law_values_right") fd := S.def_ 121 (d := d_law_values_right) rfl
theorem F_law_numbers_right (S : TX K mg) : ∃ fd, FunD K "_law_numbers_right" "_law_numbers_right" (defArgs s_law_numbers_right) (defBody s_law_numbers_right) (defScope s_law_numbers_right) [] [] (He.ga K "_law_numbers_right") fd := S.def_ 122 (d := d_law_numbers_right) rfl
theorem F_law_areas_right (S : TX K mg) : ∃ fd, FunD K "_law_areas_right" "_law_areas_right" (defArgs s_law_areas_right) (defBody s_law_areas_right) (defScope s_law_areas_right) [] [] (He.ga K "_law_areas_right") fd := S.def_ 123 (d := d_law_areas_right) rfl
theorem F_law (S : TX K mg) : ∃ fd, FunD K "law" "law" (defArgs s_law) (defBody s_law) (defScope s_law) [] [] (He.ga K "law") fd := S.def_ 124 (d := d_law) rfl
theorem in_LeaningSpread_init (S : TX K mg) : He.ma K (He.ga K "LeaningSpread") "__init__" = He.ma K (He.ga K "Spread") "__init__" := of_decide_eq_true ((He.ba S.all.2.2.1).1)
theorem in_LeaningSpread_sum_places (S : TX K mg) : He.ma K (He.ga K "LeaningSpread") "sum_places" = He.ma K (He.ga K "Spread") "sum_places" := of_decide_eq_true ((He.ba (He.ba S.all.2.2.1).2).1)
theorem in_LeaningSpread_second_needs (S : TX K mg) : He.ma K (He.ga K "LeaningSpread") "second_needs" = He.ma K (He.ga K "Spread") "second_needs" := of_decide_eq_true ((He.ba (He.ba (He.ba S.all.2.2.1).2).2).1)
theorem in_LeaningSpread_spread_at (S : TX K mg) : He.ma K (He.ga K "LeaningSpread") "spread_at" = He.ma K (He.ga K "Spread") "spread_at" := of_decide_eq_true ((He.ba (He.ba (He.ba (He.ba S.all.2.2.1).2).2).2).1)
theorem in_LeaningSpread_back_at (S : TX K mg) : He.ma K (He.ga K "LeaningSpread") "back_at" = He.ma K (He.ga K "Spread") "back_at" := of_decide_eq_true ((He.ba (He.ba (He.ba (He.ba (He.ba S.all.2.2.1).2).2).2).2).1)
theorem in_GuessedSpread_init (S : TX K mg) : He.ma K (He.ga K "GuessedSpread") "__init__" = He.ma K (He.ga K "Spread") "__init__" := of_decide_eq_true ((He.ba (He.ba (He.ba (He.ba (He.ba (He.ba S.all.2.2.1).2).2).2).2).2).1)
theorem in_GuessedSpread_spread_at (S : TX K mg) : He.ma K (He.ga K "GuessedSpread") "spread_at" = He.ma K (He.ga K "Spread") "spread_at" := of_decide_eq_true ((He.ba (He.ba (He.ba (He.ba (He.ba (He.ba (He.ba S.all.2.2.1).2).2).2).2).2).2).1)
theorem in_GuessedSpread_back_at (S : TX K mg) : He.ma K (He.ga K "GuessedSpread") "back_at" = He.ma K (He.ga K "Spread") "back_at" := of_decide_eq_true ((He.ba (He.ba (He.ba (He.ba (He.ba (He.ba (He.ba (He.ba S.all.2.2.1).2).2).2).2).2).2).2).1)
theorem noi_Sums (S : TX K mg) : noIni K (He.ga K "Sums") = true := (He.ba (He.ba (He.ba (He.ba (He.ba (He.ba (He.ba (He.ba (He.ba S.all.2.2.1).2).2).2).2).2).2).2).2).1
theorem noi_Halves (S : TX K mg) : noIni K (He.ga K "Halves") = true := (He.ba (He.ba (He.ba (He.ba (He.ba (He.ba (He.ba (He.ba (He.ba (He.ba S.all.2.2.1).2).2).2).2).2).2).2).2).2).1
theorem noi_Guessed (S : TX K mg) : noIni K (He.ga K "Guessed") = true := (He.ba (He.ba (He.ba (He.ba (He.ba (He.ba (He.ba (He.ba (He.ba (He.ba (He.ba S.all.2.2.1).2).2).2).2).2).2).2).2).2).2).1
theorem noi_Leaning (S : TX K mg) : noIni K (He.ga K "Leaning") = true := (He.ba (He.ba (He.ba (He.ba (He.ba (He.ba (He.ba (He.ba (He.ba (He.ba (He.ba (He.ba S.all.2.2.1).2).2).2).2).2).2).2).2).2).2).2).1
theorem noi_SumCarrier (S : TX K mg) : noIni K (He.ga K "SumCarrier") = true := (He.ba (He.ba (He.ba (He.ba (He.ba (He.ba (He.ba (He.ba (He.ba (He.ba (He.ba (He.ba (He.ba S.all.2.2.1).2).2).2).2).2).2).2).2).2).2).2).2).1
theorem noi_HalfCarrier (S : TX K mg) : noIni K (He.ga K "HalfCarrier") = true := (He.ba (He.ba (He.ba (He.ba (He.ba (He.ba (He.ba (He.ba (He.ba (He.ba (He.ba (He.ba (He.ba (He.ba S.all.2.2.1).2).2).2).2).2).2).2).2).2).2).2).2).2).1
theorem noi_GuessCarrier (S : TX K mg) : noIni K (He.ga K "GuessCarrier") = true := (He.ba (He.ba (He.ba (He.ba (He.ba (He.ba (He.ba (He.ba (He.ba (He.ba (He.ba (He.ba (He.ba (He.ba (He.ba S.all.2.2.1).2).2).2).2).2).2).2).2).2).2).2).2).2).2).1
theorem noi_LeanCarrier (S : TX K mg) : noIni K (He.ga K "LeanCarrier") = true := (He.ba (He.ba (He.ba (He.ba (He.ba (He.ba (He.ba (He.ba (He.ba (He.ba (He.ba (He.ba (He.ba (He.ba (He.ba (He.ba S.all.2.2.1).2).2).2).2).2).2).2).2).2).2).2).2).2).2).2).1
theorem isi_Field (S : TX K mg) : isiB K (He.ga K "Field") = true := (He.ba (He.ba (He.ba (He.ba (He.ba (He.ba (He.ba (He.ba (He.ba (He.ba (He.ba (He.ba (He.ba (He.ba (He.ba (He.ba S.all.2.2.1).2).2).2).2).2).2).2).2).2).2).2).2).2).2).2).2
end
end Kp
namespace Kp
open PySem PySem.Spec PyProof.Rows L2
abbrev R : PySem.W.OpenRow := PySem.W.OpenLaw.row PySem.Challenge.rw_halvedpictures_k92_whole_few_numbers_of
def loose0 : List Str := ["_wall", "__name__", "HalvedError", "NoField", "NoPlace", "NoNumber", "NoRow", "NoHalves", "NoRule", "NoSize", "NoWay", "NoStep", "Unlike", "TooGreat", "NoHead", "BadSign", "FIGURES", "is_whole", "is_row", "are_rows", "Field", "need_field", "PICTURE", "NUMBER", "need_picture"]
def loose1 : List Str := ["need_numbers", "rows_halved", "rows_back", "pillars_halved", "pillars_back", "step_halved", "step_back", "halved", "put_back", "coarse", "are_halves", "pairs_of", "Sums", "Halves", "half_sums", "half_row", "nearest", "Guessed", "slopes", "Leaning", "words", "rule_of", "Spread", "LeaningSpread", "GuessedSpread"]
def loose2 : List Str := ["spread_by", "need_place", "in_rows", "in_pillars", "spread_tables", "back_tables", "hangs", "needs_behind", "needs", "asked_field", "number_from", "place_from", "area_from", "is_size", "corners_of", "Plan", "MOST_PLANES", "check_of", "head_of", "planes_of", "small_number", "plan_told", "head_in", "Reading", "read_signs"]
def loose3 : List Str := ["plane_text", "signs", "are_errors", "pairs_joined", "SumCarrier", "HalfCarrier", "GuessCarrier", "LeanCarrier", "carrier_of", "MOST_ERROR", "need_errors", "along_rows", "along_pillars", "carried_rows", "worst", "_law_cell", "_law_box", "_law_take", "_law_way", "_law_value", "_law_rows", "_law_whole", "_law_shape", "_law_asked", "_law_among"]
def loose4 : List Str := ["_law_values_right", "_law_numbers_right", "_law_areas_right"]
def loose : List Str := loose0 ++ (loose1 ++ (loose2 ++ (loose3 ++ (loose4))))
abbrev hk : PySem.W.Hook := hookP fa fn exB
def ob (s : PySem.W.SharedT) : Bool × He.AlD := obsP fa fn exB (HandSHeadRun.getT s)
theorem ob_eq (s : PySem.W.SharedT) : ob s = hk.obs s.abs := by
  have e : HandSHeadRun.getT s = s.abs.heap.get? := funext (HandSHeadRun.getT_eq s)
  show obsP fa fn exB (HandSHeadRun.getT s) = obsP fa fn exB s.abs.heap.get?
  rw [e]
/-- the end of the top's run -/
noncomputable abbrev endR (w : World) (os : OsState) : Option PySem.W.SharedT := HandSHeadRun.endF (HandSHeadRun.stepQ (HandSHeadRun.denQ HandSHeadRun.tabQ) R.prog w) 16000 R.prog w os
/-- what is looked at, in parts -/
def frT (s : PySem.W.SharedT) : PySem.W.Frag := He.frG (HandSHeadRun.getT s) (asP (HandSHeadRun.getT s))
def obB1 (s : PySem.W.SharedT) : Bool × Bool := (emptyB (HandSHeadRun.getT s (askP (frT s))), exB (frT s) && (PySem.W.codeHdIn (frT s) (askC (frT s)) (askP (frT s)) && ((frT s).lookup (askP (frT s))).isNone))
def obB2 (s : PySem.W.SharedT) : Bool := fa.all fun f => f.ok (frT s)
def obB3 (s : PySem.W.SharedT) : Bool := (fn.take 60).all fun d => d.ok (frT s)
def obB5 (s : PySem.W.SharedT) : Bool := (fn.drop 60).all fun d => d.ok (frT s)
def obB4 (s : PySem.W.SharedT) : List He.FnW := fn.map fun d => He.fnW (frT s) d.at_
end Kp
namespace Kp
open PySem PySem.W PySem.Calls PySem.Spec PyProof.Rows L2
theorem runA (w : World) (os : OsState) : (endR w os).map (fun s => (HandSHeadRun.looksF R.prog (boot_heap w.params) s.abs, HandSHeadRun.seenQ (PySem.W.view R.prog [118]) loose (importedModules R.prog.main.body) (fun s => PySem.W.xlAt (PySem.W.view R.prog [118]) [] s && PySem.W.recOk R.toRowW.records s) s.abs)) = some (true, PySem.W.openGood (PySem.W.view R.prog [118]) loose) := by
  kernel_rfl
end Kp
namespace Kp
open PySem PySem.Spec PyProof.Rows L2
theorem runB2 (w : World) (os : OsState) : (endR w os).map obB2 = some true := by
  kernel_rfl
end Kp
namespace Kp
open PySem PySem.Spec PyProof.Rows L2
theorem runB3 (w : World) (os : OsState) : (endR w os).map obB3 = some true := by
  kernel_rfl
end Kp
namespace Kp
open PySem PySem.Spec PyProof.Rows L2
theorem runB5 (w : World) (os : OsState) : (endR w os).map (fun s => (obB1 s, obB5 s)) = some ((true, true), true) := by
  kernel_rfl
end Kp
namespace Kp
open PySem PySem.Spec PyProof.Rows L2
theorem runB4 (w : World) (os : OsState) : (endR w os).map obB4 = some (fn.map He.DefD.val) := by
  kernel_rfl
end Kp
namespace Kp
open PySem PySem.W PySem.Calls PySem.Spec PyProof.Rows L2
theorem run (w : World) : HandSHeadRun.RunEq R (PySem.W.view R.prog [118]) hk ob 16000 loose w := by
  intro os
  obtain ⟨s, e, a⟩ := Option.map_eq_some_iff.mp (runA w os)
  have at_ : ∀ {α : Type} {f : PySem.W.SharedT → α} {v : α}, (endR w os).map f = some v → f s = v := fun {α f v} h => by
    rw [e] at h
    exact Option.some.inj h
  have b2 := at_ (runB2 w os)
  have b3 := at_ (runB3 w os)
  have b15 := at_ (runB5 w os)
  have b1 : obB1 s = (true, true) := congrArg Prod.fst b15
  have b5 : obB5 s = true := congrArg Prod.snd b15
  have b4 := at_ (runB4 w os)
  show (endR w os).map _ = _
  rw [e]
  have a1 := congrArg Prod.fst a
  have a2 := congrArg Prod.snd a
  have o : ob s = ((obB1 s).1, (obB2 s && ((obB3 s && obB5 s) && (obB1 s).2)), obB4 s) := by
    have e3 : (obB3 s && obB5 s) = fn.all fun d => d.ok (frT s) := by
      unfold obB3 obB5
      rw [← List.all_append, List.take_append_drop]
    rw [e3]
    rfl
  rw [b1, b2, b3, b5, b4] at o
  show some (_, _, ob s) = _
  rw [o]
  exact congrArg some (Prod.ext a1 (Prod.ext a2 rfl))
end Kp
/-! the row from its walk -/
namespace Kp
open PySem PySem.W PySem.Calls PyProof.Rows
theorem holds_of (hc : PySem.W.WalkO (PySem.W.view R.prog [118]) loose (PySem.W.XL (PySem.W.view R.prog [118]) []) hk.says R.toRowW (HandSHeadRun.topDef R.prog 118) [] (fun f vs => PySem.call f vs)) : PySem.Challenge.rw_halvedpictures_k92_whole_few_numbers_of.Holds := by
  w_on; o_law
  refine HandSHeadRun.head_any (r := OpenLaw.row PySem.Challenge.rw_halvedpictures_k92_whole_few_numbers_of) (q := view (OpenLaw.row PySem.Challenge.rw_halvedpictures_k92_whole_few_numbers_of).prog [118]) (H := Kp.hk) (ob := Kp.ob) (M := 16000) (loose := Kp.loose) (d := HandSHeadRun.topDef (OpenLaw.row PySem.Challenge.rw_halvedpictures_k92_whole_few_numbers_of).prog 118) (kwd := []) Kp.ob_eq
    (by kernel_rfl) (fun s => by kernel_rfl) Kp.run (by kernel_rfl) (by kernel_rfl) (by kernel_rfl) (by rfl) (by first | assumption | decide +kernel) (by decide +kernel) ⟨rfl, rfl, rfl, rfl, rfl, by decide +kernel⟩ ?hw ?hw2
  case hw => w_witness2
  case hw2 => exact hc
end Kp
/-! the layer's rules in the shape that these proofs use: a def's promise without its function object, calls of it, readings taken apart head by head -/
namespace Kp
open PySem PySem.Spec PyProof.Rows L2
/-- a promise: arguments, heap, what follows -/
abbrev Pm := List V → Hp → VK → Prop
structure OkF (P : Program) (w : World) (K : PySem.W.Frag) (mg : Str → Option Value) (base : Heap) (k : Nat) (f : Addr) (p : Pm) : Prop where
  ex : ∃ (fd : FuncData) (ps : List Str), FnOk P w K mg base CX0 k f fd ps (fun vs H Q _ => p vs H Q) ∧ PySem.W.keepIn K (.ref f) = true ∧ Binds K fd ps []
section
variable {P : Program} {w : World} {K : PySem.W.Frag} {mg : Str → Option Value} {base : Heap}
theorem OkF.mono {j k : Nat} {f : Addr} {p : Pm} (o : OkF P w K mg base j f p) (h : j ≤ k) : OkF P w K mg base k f p :=
  let ⟨fd, ps, a, b, c⟩ := o.ex; ⟨fd, ps, a.mono h, b, c⟩
theorem OkF.imp {k : Nat} {f : Addr} {p q : Pm} (o : OkF P w K mg base k f p) (h : ∀ vs H Q, q vs H Q → p vs H Q) : OkF P w K mg base k f q :=
  let ⟨fd, ps, a, b, c⟩ := o.ex; ⟨fd, ps, a.imp fun vs H Q _ z => h vs H Q z, b, c⟩
theorem okF {x qual : Str} {params : Arguments} {body : List Stmt} {scope : Scope} {f : Addr} {N ps : List Str} {k : Nat} {p : Pm}
    (F : ∃ fd, FunD K x qual params body scope [] [] f fd) (S : FnScope N ps scope) (len : ∀ vs H Q, p vs H Q → vs.length = ps.length)
    (hb : ∀ (kV doc pm : Value) (an : Option Addr) (cdv ct : Value) (us : List Value), us.length = ps.length → bindArgs (PySem.W.fnOf x qual params body scope .none kV doc pm an cdv ct) ⟨us, []⟩ = pure (ps.zip us))
    (hbody : ∀ (cdv : Value) (A : Around) (outer : List Env) (s : Shared) (H : Hp) (vs : List V) (Q : VK) (E : XK), Room k (A.deeper (envOfC qual scope s.heap.objs.size f cdv)) → p vs H Q →
      ∃ t, PSs (cxOf CX0 P w K mg base N qual scope f cdv A outer s H E).nox body t ∧ t { nx := fun _ H' => Q .non H', rt := Q } (start N vs) H) : OkF P w K mg base (k + 1) f p := by
  obtain ⟨fd, F⟩ := F
  refine ⟨fd, ps, F.ok S (fun vs H Q _ q => len vs H Q q) (fun cdv A outer s H vs Q E hr q => ?_), F.kp, F.bindsN hb⟩
  obtain ⟨t, h, z⟩ := hbody cdv A outer s H vs Q E hr q
  exact ⟨t, h.nox, z⟩
end
def tF (p : Pm) (t : TA) : TE := fun σ H Q => t σ H fun vs H1 => p vs H1 Q
def tM (C : Addr) (m : Str) (p : Pm) (ta : TE) (t : TA) : TE := fun σ H Q => ta σ H fun x H1 => ∃ a dx fs, x = .ref a ∧ H1 a = some (.ins C dx fs) ∧ fs.lookup m = none ∧ t σ H1 fun vs H2 => p (x :: vs) H2 Q
def tMk (C : Addr) (p : Pm) (t : TA) : TE := fun σ H Q => t σ H fun vs H1 => ∀ x dx, H1 x = none → H1 dx = none → dx ≠ x → p (.ref x :: vs) (upd (upd H1 dx (.own x)) x (.ins C dx [])) fun v H2 => v = .non ∧ Q (.ref x) H2
/-- of an instance whose class is told by the reading -/
def tD (P : Program) (w : World) (K : PySem.W.Frag) (mg : Str → Option Value) (base : Heap) (k : Nat) (m : Str) (ta : TE) (t : TA) : TE := fun σ H Q => ta σ H fun x H1 => ∃ a C dx fs f p, x = .ref a ∧ H1 a = some (.ins C dx fs) ∧ fs.lookup m = none ∧ Cls K C ∧ Meth K C m f ∧
  OkF P w K mg base k f p ∧ t σ H1 fun vs H2 => p (x :: vs) H2 Q
section
variable {X : Cx} {k : Nat} {f C : Addr} {p : Pm} {x m : Str} {ps0 pos apos : Pos} {e o : Expr} {es : List Expr} {ta : TE} {t : TA}
theorem app_nil {vs : List V} {H : Hp} {Q : VK} (h : p vs H Q) : p (vs ++ []) H Q := by rw [List.append_nil]; exact h
theorem pe_f (F : OkF X.prog X.w X.K X.mg X.base k f p) (hr : Room k X.A) (hg : Gl X x) (hm : X.mg x = some (.ref f)) (ha : PA X (e :: es) t)
    (hdb : (x == ("__debug__" : Str)) = false := by decide) (he : starEach (e :: es) X.env = (false, eval e X.env) :: starEach es X.env := by rfl) (hpl : (backTo pos (starEach es X.env)).any (·.1) = false := by rfl) :
    PE X (.Call (.Name x ps0) (e :: es) [] pos) (tF p t) := by
  obtain ⟨fd, ps, F1, kp, b⟩ := F.ex
  have q := pe_call (p := ps0) (pos := pos) (E := E0) (dvs := []) F1 hr hg hm kp b .nil pass0 ha hdb he hpl
  have e0 : tCall (fun vs H Q _ => p vs H Q) [] E0 t = tF p t := by
    funext σ H Q
    show t σ H (fun vs H1 => p (vs ++ []) H1 Q) = t σ H fun vs H1 => p vs H1 Q
    simp only [List.append_nil]
  rw [← e0]
  exact q
theorem pe_f0 (F : OkF X.prog X.w X.K X.mg X.base k f p) (hr : Room k X.A) (hg : Gl X x) (hm : X.mg x = some (.ref f)) (hdb : (x == ("__debug__" : Str)) = false := by decide) : PE X (.Call (.Name x ps0) [] [] pos) (tF p tNil) := by
  obtain ⟨fd, ps, F1, kp, b⟩ := F.ex
  exact pe_call0 (p := ps0) (pos := pos) (E := E0) (dvs := []) F1 hr hg hm kp b .nil pass0 hdb
theorem pe_mt {pl : Sem Bool} (he : PE X o ta) (c : Cls X.K C) (hm : Meth X.K C m f) (F : OkF X.prog X.w X.K X.mg X.base k f p) (hr : Room k X.A) (ha : PA X (e :: es) t)
    (hst : starEach (e :: es) X.env = (false, eval e X.env) :: starEach es X.env := by rfl) (hpl : (backTo pos (starEach es X.env)).any (·.1) = false := by rfl)
    (ht : eval (.Call (.Attribute o m apos) (e :: es) [] pos) X.env = (do
      let ov ← eval o X.env
      standAt apos.atName
      let (f, first) ← holding [ov] (getMethod ov m pl)
      callWith pos f first (backTo pos (starEach (e :: es) X.env)) (backToKw pos (keywordEach [] X.env))) := by rfl) :
    PE X (.Call (.Attribute o m apos) (e :: es) [] pos) (tM C m p ta t) := by
  obtain ⟨fd, ps, F1, kp, b⟩ := F.ex
  have q := pe_meth (pl := pl) (pos := pos) (E := E0) (dvs := []) he c hm F1 hr b .nil pass0 ha hst hpl ht
  have e0 : tMeth C m (fun vs H Q _ => p vs H Q) [] E0 ta t = tM C m p ta t := by
    funext σ H Q
    show ta σ H _ = ta σ H _
    simp only [List.append_nil]
  rw [← e0]
  exact q
theorem pe_mt0 {pl : Sem Bool} (he : PE X o ta) (c : Cls X.K C) (hm : Meth X.K C m f) (F : OkF X.prog X.w X.K X.mg X.base k f p) (hr : Room k X.A)
    (ht : eval (.Call (.Attribute o m apos) [] [] pos) X.env = (do
      let ov ← eval o X.env
      standAt apos.atName
      let (f, first) ← holding [ov] (getMethod ov m pl)
      callWith pos f first (backTo pos (starEach [] X.env)) (backToKw pos (keywordEach [] X.env))) := by rfl) :
    PE X (.Call (.Attribute o m apos) [] [] pos) (tM C m p ta tNil) := by
  obtain ⟨fd, ps, F1, kp, b⟩ := F.ex
  exact pe_meth0 (pl := pl) (pos := pos) (E := E0) (dvs := []) he c hm F1 hr b .nil pass0 ht
theorem pe_d {pl : Sem Bool} (he : PE X o ta) (hr : Room k X.A) (ha : PA X (e :: es) t)
    (hst : starEach (e :: es) X.env = (false, eval e X.env) :: starEach es X.env := by rfl) (hpl : (backTo pos (starEach es X.env)).any (·.1) = false := by rfl)
    (ht : eval (.Call (.Attribute o m apos) (e :: es) [] pos) X.env = (do
      let ov ← eval o X.env
      standAt apos.atName
      let (f, first) ← holding [ov] (getMethod ov m pl)
      callWith pos f first (backTo pos (starEach (e :: es) X.env)) (backToKw pos (keywordEach [] X.env))) := by rfl) :
    PE X (.Call (.Attribute o m apos) (e :: es) [] pos) (tD X.prog X.w X.K X.mg X.base k m ta t) := by
  refine ⟨fun pins s σ H Q I h => PySem.W.methodCall_KW (pl := pl) (thn (he.run pins s σ H _ I h) fun u s1 z => ?_) ht⟩
  obtain ⟨x1, H1, I1, rx, a, C, dx, fs, f, p, ex, ea, l, c, hm, F, q⟩ := z
  obtain ⟨fd, ps, F1, kp, b⟩ := F.ex
  subst ex
  cases rx
  refine getmeth_ok I1 ea c hm l (PySem.W.callWith_K (first := [.ref a]) (h₀ := X.base) I.ok.mod.kin hm.kp (thn (ha.run pos pins s1 σ H1 _ I1 q) fun us s2 z2 => ?_) hst hpl)
  obtain ⟨vs, H2, I2, r, q2⟩ := z2
  exact ⟨I2.kIn, run_fn (E := E0) (dvs := []) (us := .ref a :: us) (vs := .ref a :: vs) F1 hr b .nil pass0 I2 (.cons rfl r) (app_nil q2)⟩
theorem pe_d0 {pl : Sem Bool} (he : PE X o ta) (hr : Room k X.A)
    (ht : eval (.Call (.Attribute o m apos) [] [] pos) X.env = (do
      let ov ← eval o X.env
      standAt apos.atName
      let (f, first) ← holding [ov] (getMethod ov m pl)
      callWith pos f first (backTo pos (starEach [] X.env)) (backToKw pos (keywordEach [] X.env))) := by rfl) :
    PE X (.Call (.Attribute o m apos) [] [] pos) (tD X.prog X.w X.K X.mg X.base k m ta tNil) := by
  refine ⟨fun pins s σ H Q I h => PySem.W.methodCall_KW (pl := pl) (thn (he.run pins s σ H _ I h) fun u s1 z => ?_) ht⟩
  obtain ⟨x1, H1, I1, rx, a, C, dx, fs, f, p, ex, ea, l, c, hm, F, q⟩ := z
  obtain ⟨fd, ps, F1, kp, b⟩ := F.ex
  subst ex
  cases rx
  exact getmeth_ok I1 ea c hm l (PySem.W.callWith_K0 (first := [.ref a]) I1.kIn hm.kp (run_fn (E := E0) (dvs := []) (us := [.ref a]) (vs := [.ref a]) F1 hr b .nil pass0 I1 (.cons rfl .nil) q))
theorem pe_mk (M : Mk X.K C f) (F : OkF X.prog X.w X.K X.mg X.base k f p) (hr : Room (k + 1) X.A) (hg : Gl X x) (hm : X.mg x = some (.ref C)) (ha : PA X (e :: es) t)
    (hdb : (x == ("__debug__" : Str)) = false := by decide) (he : starEach (e :: es) X.env = (false, eval e X.env) :: starEach es X.env := by rfl) (hpl : (backTo pos (starEach es X.env)).any (·.1) = false := by rfl) :
    PE X (.Call (.Name x ps0) (e :: es) [] pos) (tMk C p t) := by
  obtain ⟨fd, ps, F1, kp, b⟩ := F.ex
  have q := pe_make (p := ps0) (pos := pos) (E := E0) (dvs := []) M F1 hr hg hm b .nil pass0 ha hdb he hpl
  have e0 : tMake C (fun vs H Q _ => p vs H Q) [] E0 t = tMk C p t := by
    funext σ H Q
    show t σ H _ = t σ H _
    simp only [List.append_nil]
  rw [← e0]
  exact q
/-- C() of a class without an __init__ of its own -/
def tNew (C : Addr) : TE := fun _ H Q => ∀ x dx, H x = none → H dx = none → dx ≠ x → Q (.ref x) (upd (upd H dx (.own x)) x (.ins C dx []))
theorem pe_new (hn : noIni X.K C = true) (hg : Gl X x) (hm : X.mg x = some (.ref C)) (hdb : (x == ("__debug__" : Str)) = false := by decide) : PE X (.Call (.Name x ps0) [] [] pos) (tNew C) := by
  obtain ⟨n1, n2⟩ := He.ba hn
  obtain ⟨n2, n3⟩ := He.ba n2
  refine ⟨fun pins s σ H Q I h => wpAny_Call_Name_kw (ld_glob I hg hm (PySem.W.callWith_K0 I.kIn n3 ?_) hdb)⟩
  have I2 := Inv.made (C := C) I
  have hq := h (s.heap.objs.size + 1) s.heap.objs.size (I.hok.fresh (Nat.le_succ _)) (I.hok.fresh (Nat.le_refl _)) (Nat.ne_of_lt (Nat.lt_succ_self _))
  have J2 := PySem.W.makes_of (M := model X.prog X.w) I2.kIn n1
  have hy : ((s.heap.push PySem.W.emptyDict).push (PySem.W.instObj C s.heap.objs.size)).get? (s.heap.objs.size + 1) = some (PySem.W.instObj C s.heap.objs.size) := by
    have z := Heap.get?_push_size (s.heap.push PySem.W.emptyDict) (o := PySem.W.instObj C s.heap.objs.size) rfl
    rwa [Heap.size_push] at z
  have t1 : PySem.W.Looks (model X.prog X.w) ((s.heap.push PySem.W.emptyDict).push (PySem.W.instObj C s.heap.objs.size)) (typeOf (.ref (s.heap.objs.size + 1))) (.ref C) := (PySem.W.Looks.ld hy).andThen .now
  have t2 : PySem.W.Looks (model X.prog X.w) ((s.heap.push PySem.W.emptyDict).push (PySem.W.instObj C s.heap.objs.size)) (isInstance (.ref (s.heap.objs.size + 1)) (.type "object")) true := t1.andThen J2.top
  refine wpAny_call (make_map0 (s := s) I.kIn n1 (He.eqO_ok n2) (fun self => PySem.W.Looks.of_pure (PySem.W.oi_bind self)) ?_)
  have ck := @PySem.W.check_slot (model X.prog X.w)
  refine codeAny_call_builtin PySem.W.oi_plain PySem.W.entry_oi (@ck _ _ _ "object.__init__" "object" "__init__" (.ref (s.heap.objs.size + 1)) [] [] _ PySem.W.oi_kind PySem.W.oi_split t2 (PySem.W.oi_args (.ref (s.heap.objs.size + 1))) ?_)
  rw [PySem.W.oi_run]
  exact wpAny_pure (And.intro rfl ⟨V.ref (s.heap.objs.size + 1), _, I2, rfl, hq⟩)
end
/-! ### the rules that lean on the written part, it by its own name -/
section
variable {X : Cx} {K : PySem.W.Frag}
theorem kIxL (h : X.K = K) : IxR X (rIxL K) := h ▸ ix_list
theorem kIxT (h : X.K = K) : IxR X (rIxT K) := h ▸ ix_tup
theorem kSlL (h : X.K = K) : SlR X (rSlL K) := h ▸ sl_list
def rLen (K : PySem.W.Frag) : List V → Hp → VK → Prop := fun xs H Q => ∃ x n, xs = [x] ∧ LenV K x H n ∧ Q (.int (n : Nat)) H
theorem kLen (h : X.K = K) : CallR X (.builtin "len") (rLen K) := h ▸ call_len
theorem kIsi (h : X.K = K) : CallR X (.builtin "isinstance") (rIsi K) := h ▸ call_isi
def rListOf (K : PySem.W.Frag) : List V → Hp → VK → Prop := fun xs H Q => ∃ p ys, xs = [.ref p] ∧ (SqL K H p ys ∨ SqT K H p ys) ∧ ∀ l, H l = none → Q (.ref l) (upd H l (.lst ys))
theorem kListOf (h : X.K = K) : CallR X (.type "list") (rListOf K) := h ▸ call_list_of
theorem kMax (h : X.K = K) (hc : X.calm = true) : CallR X (.builtin "max") (rMax K) := h ▸ cr_max hc
theorem kEqD (h : X.K = K) (hu : X.A.units + 64 < cLine) : OpR X (compareOp .Eq) (rEqD K) := h ▸ op_eqD hu
theorem kNeD (h : X.K = K) (hu : X.A.units + 64 < cLine) : OpR X (compareOp .NotEq) (rNeD K) := h ▸ op_neD hu
theorem kNotInD (h : X.K = K) (hu : X.A.units + 65 < cLine) : OpR X (compareOp .NotIn) (rNotInD K) := h ▸ op_notInD hu
theorem kNotInS (h : X.K = K) : OpR X (compareOp .NotIn) (rIn K true) := h ▸ op_notIn_seq
variable {e o l : Expr} {es : List Expr} {f m name : Str} {pos apos cpos pp : Pos} {ta tl to : TE} {t : TA} {tg : Expr}
theorem kFld (h : X.K = K) (he : PE X e ta) (hb : attributeBase e f X.env (eval e X.env) = eval e X.env) : PE X (.Attribute e f pos) (tFld K ta f) := by subst h; exact pe_fld he hb
theorem kSFld {value : Expr} {pos' : Pos} {tv : TE} (h : X.K = K) (ha : PE X o ta) (hv : PE X value tv) (hs : swapsWith value (some (.Attribute o f pos')) pos.line X.env = pure false) :
    PS X (.Assign [.Attribute o f pos'] value pos) (sFld K ta tv f) := by subst h; exact ps_fld ha hv hs
theorem kList (h : X.K = K) (hl : PE X l tl) : PI X tg l (iList K tl) := by subst h; exact pi_list hl
theorem kTup (h : X.K = K) (hl : PE X l tl) : PI X tg l (iTup K tl) := by subst h; exact pi_tup hl
theorem kEnum {elts : List Expr} {kk : Nat} {tpos p : Pos} (h : X.K = K) (hg : Gl X "enumerate") (hm : X.mg "enumerate" = none) (ha : PA X [e] t) (hs : starEach [e] X.env = [(false, eval e X.env)] := by rfl) :
    PI X (.Tuple elts kk tpos) (.Call (.Name "enumerate" p) [e] [] pos) (iEnum K t) := by subst h; exact pi_enum hg hm ha hs
theorem kZip {elts : List Expr} {kk : Nat} {tpos p : Pos} {e2 : Expr} (h : X.K = K) (hg : Gl X "zip") (hm : X.mg "zip" = none) (ha : PA X [e, e2] t)
    (hs : starEach [e, e2] X.env = (false, eval e X.env) :: starEach [e2] X.env := by rfl) (hpl : (backTo pos (starEach [e2] X.env)).any (·.1) = false := by rfl) :
    PI X (.Tuple elts kk tpos) (.Call (.Name "zip" p) [e, e2] [] pos) (iZip K t) := by subst h; exact pi_zip hg hm ha hs hpl
theorem kPTup {es : List Expr} {k : Nat} {t : TGs} {n : Nat} (hK : X.K = K) (hc : X.calm = true) (h : PGs X es t)
    (hn : (assignEach es X.env).length = n := by rfl) (hst : (assignEach es X.env).findIdx? (·.1) = none := by rfl) : PG X (.Tuple es k pos) (gTup K n t) := by subst hK; exact pg_tup hc h hn hst
theorem kBM {T id : String} {r : V → List V → Hp → VK → Prop} (hK : X.K = K) (pa : PlainAttrs T) (slot : Slot T name id) (hty : typeOf (.builtin id) = pure (.type "method_descriptor")) (hm : MtR X id r) (ho : PE X o to) (ha : PA X (e :: es) t)
    (hbase : attributeBase o name X.env (eval o X.env) = eval o X.env := by rfl)
    (hf : ((backTo cpos (starEach (e :: es) X.env)).all (fun x => !x.1) && (backToKw cpos (keywordEach [] X.env)).all (fun x => x.1.isSome) &&
      decide ((e :: es).length + ([] : List Keyword).length + (if ([] : List Keyword).isEmpty then 0 else 1) < 30)) = true := by rfl)
    (hline : (apos.endLine == cpos.line) = true := by rfl) (he : starEach (e :: es) X.env = (false, eval e X.env) :: starEach es X.env := by rfl) (hpl : (backTo cpos (starEach es X.env)).any (·.1) = false := by rfl) :
    PE X (.Call (.Attribute o name apos) (e :: es) [] cpos) (tBM K T r to t) := by subst hK; exact pe_bm pa slot hty hm ho ha hbase hf hline he hpl
end
end Kp
/-! readings taken apart head by head; lists told by a function of the place; what stays in the heap -/
namespace Kp
open PySem PySem.Spec L2
/-! ### statements: the ends told one by one -/
section
variable {te tu tv ta tb tl : TE} {t u : TS} {tt tw : TT} {tr ts : TA} {g : TG} {gs : TGs} {n : St → Hp → Prop} {r : VK} {b c : St → Hp → Prop} {σ : St} {H : Hp} {Q : VK} {QT : Bool → Hp → Prop} {QA : List V → Hp → Prop} {K : PySem.W.Frag}
theorem gSeq (h : t ⟨u ⟨n, r, b, c⟩, r, b, c⟩ σ H) : tSeq t u ⟨n, r, b, c⟩ σ H := h
theorem gNext (h : n σ H) : tNext ⟨n, r, b, c⟩ σ H := h
theorem gBreak (h : b σ H) : tBreak ⟨n, r, b, c⟩ σ H := h
theorem gCont (h : c σ H) : tCont ⟨n, r, b, c⟩ σ H := h
theorem gRet (h : te σ H r) : tRet te ⟨n, r, b, c⟩ σ H := h
theorem gRetN (h : r .non H) : tRetN ⟨n, r, b, c⟩ σ H := h
theorem gDrop (h : te σ H fun _ H1 => n σ H1) : tDrop te ⟨n, r, b, c⟩ σ H := h
theorem gAsg (h : te σ H fun x H1 => g x σ H1 n) : tAsg te g ⟨n, r, b, c⟩ σ H := h
theorem gIfS (h : tt σ H fun d H1 => if d = true then t ⟨n, r, b, c⟩ σ H1 else u ⟨n, r, b, c⟩ σ H1) : tIfS tt t u ⟨n, r, b, c⟩ σ H := h
theorem gSFld {f : Str} (h : tv σ H fun y H1 => ta σ H1 fun x H2 => ∃ a C dx fs, x = .ref a ∧ H2 a = some (.ins C dx fs) ∧ Cls K C ∧ NoAttr K C f ∧ fs.length < 1000 ∧ n σ (upd H2 a (.ins C dx (putF f y fs)))) : sFld K ta tv f ⟨n, r, b, c⟩ σ H := h
/-! ### targets -/
theorem gNm {i : Nat} {v : V} {q : St → Hp → Prop} (h : q (σ.set i (some v)) H) : gName i v σ H q := h
theorem gSb {to ti : TE} {s : TSet} {v : V} {q : St → Hp → Prop} (h : to σ H fun o H1 => ti σ H1 fun i H2 => s o i v H2 fun H3 => q σ H3) : gSub to ti s v σ H q := h
theorem gTp {m : Nat} {a : Addr} {xs : List V} {q : St → Hp → Prop} (h : SqT K H a xs) (hl : xs.length = m) (h2 : gs xs σ H q) : gTup K m gs (.ref a) σ H q := ⟨a, xs, rfl, h, hl, h2⟩
theorem gCs {v : V} {vs : List V} {q : St → Hp → Prop} (h : g v σ H fun σ1 H1 => gs vs σ1 H1 q) : gCons g gs (v :: vs) σ H q := ⟨v, vs, rfl, h⟩
theorem gNl {q : St → Hp → Prop} (h : q σ H) : gNil [] σ H q := ⟨rfl, h⟩
/-! ### expressions -/
theorem gVar {i : Nat} {v : V} (e : σ[i]? = some (some v)) (h : Q v H) : tVar i σ H Q := ⟨v, e, h⟩
theorem gC {v : V} (h : Q v H) : tC v σ H Q := h
theorem gOp {q : R2} (h : ta σ H fun x H1 => tb σ H1 fun y H2 => q x y H2 Q) : tOp q ta tb σ H Q := h
theorem gUn {q : V → Hp → VK → Prop} (h : ta σ H fun x H1 => q x H1 Q) : tUn q ta σ H Q := h
theorem gI0 {f : Int → Int → V} {i j : Int} (h : Q (f i j) H) : rI0 f (.int i) (.int j) H Q := ⟨i, j, rfl, rfl, h⟩
theorem gI {C : Int → Int → Prop} {f : Int → Int → V} {i j : Int} (hc : C i j) (h : Q (f i j) H) : rI C f (.int i) (.int j) H Q := ⟨i, j, rfl, rfl, hc, h⟩
theorem gU {f : Int → V} {i : Int} (h : Q (f i) H) : rU f (.int i) H Q := ⟨i, rfl, h⟩
theorem gEq {x y : V} (hs : scal x y = true) (h : Q (.bl (decide (x = y))) H) : rEq x y H Q := ⟨hs, h⟩
theorem gNe {x y : V} (hs : scal x y = true) (h : Q (.bl (!decide (x = y))) H) : rNe x y H Q := ⟨hs, h⟩
theorem gTest (h : te σ H fun x H1 => ∃ k, x = .bl k ∧ QT k H1) : tTest te σ H QT := h
theorem gB (h : te σ H fun x H1 => ∃ k, x = .bl k ∧ QT k H1) : tB te σ H QT := h
theorem gBl {k : Bool} {q : Bool → Prop} (h : q k) : ∃ d, V.bl k = .bl d ∧ q d := ⟨k, rfl, h⟩
theorem gChain {q q' : R2} {tc : TE} (h : ta σ H fun x H1 => tb σ H1 fun y H2 => q x y H2 fun z H3 => ∃ k, z = .bl k ∧ (if k = true then tc σ H3 fun w H4 => q' y w H4 Q else Q (.bl false) H3)) : tChain q q' ta tb tc σ H Q := h
theorem gAnd (h : tt σ H fun d H1 => if d = true then tw σ H1 QT else QT false H1) : tAnd tt tw σ H QT := h
theorem gOr (h : tt σ H fun d H1 => if d = true then QT true H1 else tw σ H1 QT) : tOr tt tw σ H QT := h
theorem gNot (h : tt σ H fun d H1 => QT (!d) H1) : tNot tt σ H QT := h
theorem gAndV (h : ta σ H fun x H1 => ∃ d, x = .bl d ∧ if d = true then tb σ H1 Q else Q (.bl false) H1) : tAndV ta tb σ H Q := h
theorem gOrV (h : ta σ H fun x H1 => ∃ d, x = .bl d ∧ if d = true then Q (.bl true) H1 else tb σ H1 Q) : tOrV ta tb σ H Q := h
theorem gNotV (h : ta σ H fun x H1 => ∃ d, x = .bl d ∧ Q (.bl (!d)) H1) : tNotV ta σ H Q := h
theorem gNil0 (h : QA [] H) : tNil σ H QA := h
theorem gCons0 (h : ta σ H fun x H1 => ts σ H1 fun xs H2 => QA (x :: xs) H2) : tCons ta ts σ H QA := h
theorem gTupE (h : ts σ H fun xs H1 => xs.length ≤ sizeLine ∧ ∀ p, H1 p = none → Q (.ref p) (upd H1 p (.tup xs))) : tTup ts σ H Q := h
theorem gLstE (h : ts σ H fun xs H1 => xs.length ≤ sizeLine ∧ ∀ p, H1 p = none → Q (.ref p) (upd H1 p (.lst xs))) : tLst ts σ H Q := h
theorem gCB {q : List V → Hp → VK → Prop} (h : ts σ H fun vs H1 => q vs H1 Q) : tCB q ts σ H Q := h
theorem gFn {p : Pm} (h : ts σ H fun vs H1 => p vs H1 Q) : tF p ts σ H Q := h
theorem gMeth {C : Addr} {m : Str} {p : Pm} (h : ta σ H fun x H1 => ∃ a dx fs, x = .ref a ∧ H1 a = some (.ins C dx fs) ∧ fs.lookup m = none ∧ ts σ H1 fun vs H2 => p (x :: vs) H2 Q) : tM C m p ta ts σ H Q := h
theorem gMk {C : Addr} {p : Pm} (h : ts σ H fun vs H1 => ∀ x dx, H1 x = none → H1 dx = none → dx ≠ x → p (.ref x :: vs) (upd (upd H1 dx (.own x)) x (.ins C dx [])) fun v H2 => v = .non ∧ Q (.ref x) H2) : tMk C p ts σ H Q := h
theorem gFld {f : Str} (h : ta σ H fun x H1 => ∃ a C dx fs v, x = .ref a ∧ H1 a = some (.ins C dx fs) ∧ Cls K C ∧ NoAttr K C f ∧ fs.lookup f = some v ∧ Q v H1) : tFld K ta f σ H Q := h
theorem gFldE {f : Str} {a C dx : Addr} {fs : List (Str × V)} {v : V} (h : H a = some (.ins C dx fs)) (hc : Cls K C) (hn : NoAttr K C f) {r : V → Prop} (hl : fs.lookup f = some v) (q : r v) :
    ∃ a' C dx fs v, V.ref a = .ref a' ∧ H a' = some (.ins C dx fs) ∧ Cls K C ∧ NoAttr K C f ∧ fs.lookup f = some v ∧ r v := ⟨a, C, dx, fs, v, rfl, h, hc, hn, hl, q⟩
theorem gMeE {m : Str} {a C dx : Addr} {fs : List (Str × V)} {q : Prop} (h : H a = some (.ins C dx fs)) (hl : fs.lookup m = none) (hq : q) : ∃ a' dx fs, V.ref a = .ref a' ∧ H a' = some (.ins C dx fs) ∧ fs.lookup m = none ∧ q := ⟨a, dx, fs, rfl, h, hl, hq⟩
theorem gBM {T : String} {q : V → List V → Hp → VK → Prop} (h : ta σ H fun x H1 => tyV K T x H1 ∧ ts σ H1 fun xs H2 => q x xs H2 Q) : tBM K T q ta ts σ H Q := h
theorem gIxL {p : Addr} {xs : List V} {i : Int} {v : V} (h : SqL K H p xs) (e : atI xs i = some v) (q : Q v H) : rIxL K (.ref p) (.int i) H Q := ⟨p, xs, i, v, rfl, rfl, h, e, q⟩
theorem gIxT {p : Addr} {xs : List V} {i : Int} {v : V} (h : SqT K H p xs) (e : atI xs i = some v) (q : Q v H) : rIxT K (.ref p) (.int i) H Q := ⟨p, xs, i, v, rfl, rfl, h, e, q⟩
theorem gSl {q : V → Option Int → Option Int → Hp → VK → Prop} {t1 t2 : TO} (h : te σ H fun x H1 => t1 σ H1 fun l H2 => t2 σ H2 fun u H3 => q x l u H3 Q) : tSl q te t1 t2 σ H Q := h
theorem gNoP {QO : Option Int → Hp → Prop} (h : QO none H) : tNoPart σ H QO := h
theorem gPart {QO : Option Int → Hp → Prop} (h : te σ H fun x H1 => ∃ i, x = .int i ∧ QO (some i) H1) : tPart te σ H QO := h
theorem gPartE {q : Int → Prop} {i : Int} (h : q i) : ∃ j, V.int i = .int j ∧ q j := ⟨i, rfl, h⟩
theorem gSlL {a : Addr} {xs : List V} {lo hi : Option Int} (h : SqL K H a xs) (q : ∀ p, H p = none → Q (.ref p) (upd H p (.lst (cutV xs lo hi)))) : rSlL K (.ref a) lo hi H Q := ⟨a, xs, rfl, h, q⟩
theorem gTrue {A B : Prop} (h : A) : if true = true then A else B := by rw [if_pos rfl]; exact h
theorem gFalse {A B : Prop} (h : B) : if false = true then A else B := by rw [if_neg Bool.false_ne_true]; exact h
/-- a test whose answer is told -/
theorem gIf {d e : Bool} {A B : Prop} (he : d = e) (h : if e = true then A else B) : if d = true then A else B := by rw [he]; exact h
theorem gIfT {d : Bool} {A B : Prop} (he : d = true) (h : A) : if d = true then A else B := by rw [if_pos he]; exact h
theorem gIfF {d : Bool} {A B : Prop} (he : d = false) (h : B) : if d = true then A else B := by rw [he]; exact gFalse h
theorem gIf2 {d : Bool} {A B : Prop} (h1 : d = true → A) (h2 : d = false → B) : if d = true then A else B := by
  cases d with
  | true => exact gTrue (h1 rfl)
  | false => exact gFalse (h2 rfl)
end
/-! ### what stays -/
section
variable {H H' H0 : Hp} {a p : Addr} {o u : HO}
theorem _root_.L2.Same.new (h : H p = none) : Same H (upd H p o) := fun b v e => by rw [upd_ne (ne_of_none e h)]; exact e
theorem get_new (h : H p = none) (e : H a = some u) : upd H p o a = some u := by rw [upd_ne (ne_of_none e h)]; exact e
theorem _root_.L2.Same.mut (s : Same H0 H) (h : H0 p = none) : Same H0 (upd H p o) := fun b v e => by rw [upd_ne (ne_of_none e h)]; exact s _ _ e
theorem newF (hg : upd H p o = H') (h : H p = none) : Same H H' ∧ H' p = some o := by rw [← hg]; exact ⟨L2.Same.new h, upd_same⟩
/-- all but what is at the addresses of S -/
def Kept (S : Addr → Prop) (H H' : Hp) : Prop := ∀ b o, H b = some o → ¬ S b → H' b = some o
theorem Kept.refl (S : Addr → Prop) (H : Hp) : Kept S H H := fun _ _ e _ => e
theorem Kept.trans {S : Addr → Prop} {H1 : Hp} (x : Kept S H H1) (y : Kept S H1 H') : Kept S H H' := fun b v e n => y b v (x b v e n) n
theorem Kept.of {S : Addr → Prop} (s : Same H H') : Kept S H H' := fun b v e _ => s b v e
theorem Kept.mono {S T : Addr → Prop} (s : Kept S H H') (h : ∀ b, S b → T b) : Kept T H H' := fun b v e n => s b v e fun z => n (h b z)
theorem Kept.mut {S : Addr → Prop} (s : Kept S H H') (h : S p) : Kept S H (upd H' p o) := fun b v e n => by
  have nb : b ≠ p := fun z => n (by rw [z]; exact h)
  rw [upd_ne nb]
  exact s b v e n
theorem Kept.new {S : Addr → Prop} (s : Kept S H H') (h : H' p = none) (hs : ∀ b, S b → H' b ≠ none → S b := fun _ h _ => h) : Kept S H (upd H' p o) := fun b v e n => get_new h (s b v e n)
/-- what stood ahead of the changed things stands -/
theorem Kept.same {S : Addr → Prop} (s : Same H0 H) (k : Kept S H H') (f : ∀ b, S b → H0 b = none) : Same H0 H' := fun b v e => k b v (s b v e) fun z => by
  rw [f b z] at e
  cases e
end
theorem div_row {i n k : Nat} (h1 : ¬ k < i * n) (h2 : k < (i + 1) * n) : k / n = i ∧ k % n = k - i * n ∧ k - i * n < n := by
  have h3 : (i + 1) * n = i * n + n := Nat.succ_mul i n
  have e : k / n = i := Nat.div_eq_of_lt_le (by omega) (by omega)
  have z := Nat.div_add_mod k n
  rw [e, Nat.mul_comm] at z
  exact ⟨e, by omega, by omega⟩
theorem row_le {i h n : Nat} (hi : i < h) : i * n + n ≤ h * n := by
  have h1 : (i + 1) * n ≤ h * n := Nat.mul_le_mul_right n hi
  rw [Nat.succ_mul] at h1
  exact h1
/-! ### lists told by a function of the place -/
def tab (n : Nat) (f : Nat → V) : List V := (List.range n).map f
section
variable {n m i k : Nat} {f f' g : Nat → V} {v : V}
theorem tab_len : (tab n f).length = n := by unfold tab; rw [List.length_map, List.length_range]
theorem tab_get (h : i < n) : (tab n f)[i]? = some (f i) := by
  unfold tab
  rw [List.getElem?_map, List.getElem?_range h]
  rfl
theorem tab_none (h : n ≤ i) : (tab n f)[i]? = none := List.getElem?_eq_none_iff.mpr (by rw [tab_len]; exact h)
theorem tab_ext {xs : List V} (hl : xs.length = n) (h : ∀ i, i < n → xs[i]? = some (f i)) : xs = tab n f := by
  refine List.ext_getElem? fun i => ?_
  by_cases q : i < n
  · rw [h i q, tab_get q]
  · rw [tab_none (by omega), List.getElem?_eq_none_iff.mpr (by omega)]
theorem tab_congr (h : ∀ i, i < n → f i = f' i) : tab n f = tab n f' := tab_ext tab_len fun i q => by rw [tab_get q, h i q]
theorem tab_zero : tab 0 f = [] := rfl
theorem tab_snoc : tab n f ++ [f n] = tab (n + 1) f := by
  unfold tab
  rw [List.range_succ, List.map_append]
  rfl
theorem tab_push (h : v = f n) : tab n f ++ [v] = tab (n + 1) f := by rw [h, tab_snoc]
theorem tab_app : tab n f ++ tab m g = tab (n + m) fun i => if i < n then f i else g (i - n) := by
  refine tab_ext (by rw [List.length_append, tab_len, tab_len]) fun i q => ?_
  by_cases h : i < n
  · rw [List.getElem?_append_left (by rw [tab_len]; exact h), tab_get h, if_pos h]
  · rw [List.getElem?_append_right (by rw [tab_len]; omega), tab_len, tab_get (by omega), if_neg h]
theorem tab_set : (tab n f).set k v = tab n fun i => if i = k then v else f i := by
  refine tab_ext (by rw [List.length_set, tab_len]) fun i q => ?_
  by_cases h : i = k
  · rw [if_pos h, h, List.getElem?_set_self (by rw [tab_len]; omega)]
  · rw [if_neg h, List.getElem?_set_ne (fun z => h z.symm), tab_get q]
theorem tab_drop : (tab n f).drop k = tab (n - k) fun i => f (k + i) := by
  refine tab_ext (by rw [List.length_drop, tab_len]) fun i q => ?_
  rw [List.getElem?_drop, tab_get (by omega)]
theorem tab_take : (tab n f).take k = tab (min k n) f := by
  refine tab_ext (by rw [List.length_take, tab_len]) fun i q => ?_
  rw [List.getElem?_take_of_lt (by omega), tab_get (by omega)]
theorem tab_cut {lo hi : Option Int} {a b : Nat} (ha : HT.sIx n 0 lo = a) (hb : HT.sIx n n hi = b) (hn : b ≤ n) : cutV (tab n f) lo hi = tab (b - a) fun i => f (a + i) := by
  unfold cutV
  rw [tab_len, ha, hb, tab_drop, tab_take]
  congr 1
  omega
theorem sIx_none {d : Nat} : HT.sIx n d none = d := rfl
theorem sIx_nat {d : Nat} (h : k ≤ n) : HT.sIx n d (some (k : Int)) = k := by
  show (if (k : Int) < 0 then ((k : Int) + (n : Int)).toNat else min (k : Int).toNat n) = k
  rw [if_neg (by omega), Int.toNat_natCast]
  omega
theorem tab_map {α : Type} {xs : List α} {h : α → V} {d : α} : xs.map h = tab xs.length fun i => h (xs.getD i d) := by
  refine tab_ext (by rw [List.length_map]) fun i q => ?_
  rw [List.getElem?_map, List.getD_eq_getElem?_getD, List.getElem?_eq_getElem q]
  rfl
theorem tab_rep {x : V} : List.replicate n x = tab n fun _ => x := tab_ext List.length_replicate fun i q => by
  rw [List.getElem?_replicate, if_pos q]
theorem tab_flat {x : V} : (List.replicate n [x]).flatten = tab n fun _ => x := by
  rw [← tab_rep]
  induction n with
  | zero => rfl
  | succ n ih => rw [List.replicate_succ, List.flatten_cons, ih]; rfl
theorem at_tab (h : i < n) : atI (tab n f) (i : Int) = some (f i) := by
  unfold atI ixN
  rw [tab_len, if_pos (by omega), if_pos (by omega)]
  show (tab n f)[(i : Int).toNat]? = _
  rw [Int.toNat_natCast, tab_get h]
theorem at_last (h : 0 < n) : atI (tab n f) (-1) = some (f (n - 1)) := by
  unfold atI ixN
  rw [tab_len, if_neg (by omega), if_pos (by omega)]
  show (tab n f)[(-1 + (n : Int)).toNat]? = _
  rw [show (-1 + (n : Int)).toNat = n - 1 by omega, tab_get (by omega)]
theorem ix_tab (h : i < n) : ixN (tab n f).length (i : Int) = some i := by
  unfold ixN
  rw [tab_len, if_pos (by omega), if_pos (by omega), Int.toNat_natCast]
/-- of an int whose value is a place -/
theorem at_tabI {j : Int} (hj : j = (i : Int)) (h : i < n) : atI (tab n f) j = some (f i) := by rw [hj]; exact at_tab h
theorem ix_tabI {j : Int} (hj : j = (i : Int)) (h : i < n) : ixN (tab n f).length j = some i := by rw [hj]; exact ix_tab h
end
/-- one more address -/
def ext (ta : Nat → Addr) (n : Nat) (l : Addr) : Nat → Addr := fun i => if i = n then l else ta i
theorem ext_eq {ta : Nat → Addr} {n : Nat} {l : Addr} : ext ta n l n = l := if_pos rfl
theorem ext_lt {ta : Nat → Addr} {n i : Nat} {l : Addr} (h : i < n) : ext ta n l i = ta i := if_neg (by omega)
/-- at D stands a new list of n new things -/
structure NewL (H0 H : Hp) (D : Addr) (n : Nat) (ta : Nat → Addr) (o : Nat → HO) : Prop where
  same : Same H0 H
  nd : H0 D = none
  top : H D = some (.lst (tab n fun i => .ref (ta i)))
  it : ∀ i, i < n → H (ta i) = some (o i)
  fr : ∀ i, i < n → H0 (ta i) = none
  ne : ∀ i, i < n → ta i ≠ D
  inj : ∀ i j, i < n → j < n → ta i = ta j → i = j
section
variable {H0 H H' : Hp} {D l : Addr} {n : Nat} {ta : Nat → Addr} {o : Nat → HO}
theorem NewL.nil (h : H D = none) : NewL H (upd H D (.lst [])) D 0 ta o :=
  ⟨L2.Same.new h, h, upd_same, fun i z => absurd z (by omega), fun i z => absurd z (by omega), fun i z => absurd z (by omega), fun i j z => absurd z (by omega)⟩
theorem NewL.same' (x : NewL H0 H D n ta o) (s : Same H H') : NewL H0 H' D n ta o :=
  ⟨x.same.trans s, x.nd, s _ _ x.top, fun i z => s _ _ (x.it i z), x.fr, x.ne, x.inj⟩
theorem NewL.push (x : NewL H0 H D n ta o) (hl : H l = none) (hn : H' l = some (o n)) (s : Same H H') : NewL H0 (upd H' D (.lst (tab n (fun i => .ref (ta i)) ++ [.ref l]))) D (n + 1) (ext ta n l) o := by
  have h0 : H0 l = none := x.same.free hl
  have lD : l ≠ D := fun z => by rw [z, x.top] at hl; cases hl
  have lt : ∀ i, i < n → l ≠ ta i := fun i hi z => by rw [z, x.it i hi] at hl; cases hl
  refine ⟨fun b v e => ?_, x.nd, ?_, fun i hi => ?_, fun i hi => ?_, fun i hi => ?_, fun i j hi hj e => ?_⟩
  · rw [upd_ne (ne_of_none e x.nd)]
    exact s _ _ (x.same _ _ e)
  · have e1 : tab n (fun i => V.ref (ta i)) = tab n fun i => V.ref (ext ta n l i) := tab_congr fun i hi => by rw [ext_lt hi]
    have e2 : V.ref l = V.ref (ext ta n l n) := by rw [ext_eq]
    rw [upd_same, e1, e2, tab_snoc (f := fun i => V.ref (ext ta n l i))]
  · by_cases e : i = n
    · rw [e, ext_eq, upd_ne lD]
      exact hn
    · rw [ext_lt (by omega), upd_ne (x.ne i (by omega))]
      exact s _ _ (x.it i (by omega))
  · by_cases e : i = n
    · rw [e, ext_eq]
      exact h0
    · rw [ext_lt (by omega)]
      exact x.fr i (by omega)
  · by_cases e : i = n
    · rw [e, ext_eq]
      exact lD
    · rw [ext_lt (by omega)]
      exact x.ne i (by omega)
  · by_cases ei : i = n
    · by_cases ej : j = n
      · omega
      · rw [ei, ext_eq, ext_lt (by omega)] at e
        exact absurd e (lt j (by omega))
    · by_cases ej : j = n
      · rw [ej, ext_eq, ext_lt (by omega)] at e
        exact absurd e.symm (lt i (by omega))
      · rw [ext_lt (by omega), ext_lt (by omega)] at e
        exact x.inj i j (by omega) (by omega) e
end
/-! ### loops -/
section
/-- the rest of a for, its walk known -/
def ForJ (J : It) (g : TG) (tb : TS) (n : St → Hp → Prop) (r : VK) (σ : St) (H1 : Hp) : Prop := ∃ W : Nat → Nat → St → Hp → Prop, (∃ m, W 0 m σ H1) ∧ ∀ i m σ H, W i m σ H →
  (J.stop i H ∧ n σ H) ∨ (J.go i H ∧ ∃ N : St → Hp → Prop, (∀ σ' H', N σ' H' → ∃ m', m' < m ∧ W (i + 1) m' σ' H') ∧ ∀ x H', J.yld i H x H' → g x σ H' fun σ2 H2 => tb ⟨N, r, n, N⟩ σ2 H2)
variable {wi : TI} {g : TG} {tb : TS} {n : St → Hp → Prop} {r : VK} {b c : St → Hp → Prop} {σ : St} {H : Hp} {J : It} {m : Nat} {G : Hp → Prop} {Y : Nat → Hp → V → Hp → Prop}
theorem gFor (h : wi σ H fun J H1 => ForJ J g tb n r σ H1) : tFor wi g tb ⟨n, r, b, c⟩ σ H := h
theorem forIt (w : Walk J m G Y) (Pv : Nat → St → Hp → Prop) (h0 : Pv 0 σ H) (hG : ∀ i σ H, i ≤ m → Pv i σ H → G H)
    (hs : ∀ i x σ H H', i < m → Pv i σ H → Y i H x H' → g x σ H' fun σ2 H2 => tb ⟨Pv (i + 1), r, n, Pv (i + 1)⟩ σ2 H2) (hd : ∀ σ H, Pv m σ H → n σ H) : ForJ J g tb n r σ H :=
  for_it (D := ⟨n, r, n, n⟩) w Pv h0 hG hs hd
def LcJ (J : It) (g : TG) (tt : TT) (te : TE) (σ : St) (vs : List Nat) (H1 : Hp) (D : Addr) (q : Hp → Prop) : Prop := ∃ W : Nat → Nat → Hp → Prop, (∃ m, W 0 m (upd H1 D (.lst []))) ∧ ∀ i m H, W i m H →
  (J.stop i H ∧ q H) ∨ (J.go i H ∧ ∃ Nx : Hp → Prop, (∀ H', Nx H' → ∃ m', m' < m ∧ W (i + 1) m' H') ∧ ∀ x H', J.yld i H x H' → g x (wipe σ vs) H' fun σ2 H2 => wipe σ2 vs = wipe σ vs ∧ tt σ2 H2 fun b H3 =>
    if b = true then te σ2 H3 fun y H4 => ∃ acc, H4 D = some (.lst acc) ∧ acc.length < sizeLine ∧ Nx (upd H4 D (.lst (acc ++ [y]))) else Nx H3)
variable {tt : TT} {te : TE} {vs : List Nat} {Q : VK} {D : Addr} {q : Hp → Prop}
theorem gLc (h : wi σ H fun J H1 => ∀ D, H1 D = none → LcJ J g tt te σ vs H1 D fun H2 => Q (.ref D) H2) : tLc wi g tt te vs σ H Q := h
theorem lcIt (w : Walk J m G Y) (Pv : Nat → Hp → Prop) (h0 : Pv 0 (upd H D (.lst []))) (hG : ∀ i H, i ≤ m → Pv i H → G H)
    (hs : ∀ i x H H', i < m → Pv i H → Y i H x H' → g x (wipe σ vs) H' fun σ2 H2 => wipe σ2 vs = wipe σ vs ∧ tt σ2 H2 fun b H3 =>
      if b = true then te σ2 H3 fun y H4 => ∃ acc, H4 D = some (.lst acc) ∧ acc.length < sizeLine ∧ Pv (i + 1) (upd H4 D (.lst (acc ++ [y]))) else Pv (i + 1) H3) (hd : ∀ H, Pv m H → q H) : LcJ J g tt te σ vs H D q :=
  lc_it w Pv h0 hG hs hd
theorem gYes {QT : Bool → Hp → Prop} (h : QT true H) : tYes σ H QT := h
variable {K : PySem.W.Frag} {tl td : TE} {ta : TA} {R : It → Hp → Prop}
theorem gIL (h : tl σ H fun x H1 => ∃ a, x = .ref a ∧ (∃ xs, SqL K H1 a xs) ∧ R (Itl K a) H1) : iList K tl σ H R := h
theorem gITup (h : tl σ H fun x H1 => ∃ a, x = .ref a ∧ (∃ xs, SqT K H1 a xs) ∧ R (Itt K a) H1) : iTup K tl σ H R := h
theorem gIR1 (h : ta σ H fun vs H1 => ∃ j : Int, vs = [.int j] ∧ -(2 ^ 62) ≤ j ∧ j < 2 ^ 62 ∧ R (Itr 0 j.toNat) H1) : iRng1 ta σ H R := h
theorem gIR2 (h : ta σ H fun vs H1 => ∃ i j : Int, vs = [.int i, .int j] ∧ (-(2 ^ 62) ≤ i ∧ i < 2 ^ 62 ∧ -(2 ^ 62) ≤ j ∧ j < 2 ^ 62) ∧ R (Itr i (j - i).toNat) H1) : iRng2 ta σ H R := h
theorem gR1 {i : Int} {q : Int → Prop} (hi : 0 ≤ i ∧ i ≤ 1000000) (h : q i) : ∃ j : Int, [V.int i] = [.int j] ∧ -(2 ^ 62) ≤ j ∧ j < 2 ^ 62 ∧ q j := ⟨i, rfl, by omega, by omega, h⟩
theorem gR2 {i j : Int} {q : Int → Int → Prop} (h1 : -1000000 ≤ i ∧ i ≤ 1000000) (h2 : -1000000 ≤ j ∧ j ≤ 1000000) (h : q i j) : ∃ i' j' : Int, [V.int i, V.int j] = [.int i', .int j'] ∧ (-(2 ^ 62) ≤ i' ∧ i' < 2 ^ 62 ∧ -(2 ^ 62) ≤ j' ∧ j' < 2 ^ 62) ∧ q i' j' :=
  ⟨i, j, rfl, ⟨by omega, by omega, by omega, by omega⟩, h⟩
theorem gL1 {a : Addr} {xs : List V} {q : Addr → Prop} (hq : SqL K H a xs) (h : q a) : ∃ p, V.ref a = .ref p ∧ (∃ xs, SqL K H p xs) ∧ q p := ⟨a, rfl, ⟨xs, hq⟩, h⟩
theorem gT1 {a : Addr} {xs : List V} {q : Addr → Prop} (hq : SqT K H a xs) (h : q a) : ∃ p, V.ref a = .ref p ∧ (∃ xs, SqT K H p xs) ∧ q p := ⟨a, rfl, ⟨xs, hq⟩, h⟩
theorem gIE (h : ta σ H fun vs H1 => ∃ a xs, vs = [.ref a] ∧ SqL K H1 a xs ∧ R (Ite K a) H1) : iEnum K ta σ H R := h
theorem gIZ (h : ta σ H fun vs H1 => ∃ a b xs ys, vs = [.ref a, .ref b] ∧ SqL K H1 a xs ∧ SqL K H1 b ys ∧ R (Itz K a b) H1) : iZip K ta σ H R := h
theorem gIS (h : te σ H fun v H1 => ∃ x, v = .str x ∧ R (Its x) H1) : iStr te σ H R := h
theorem gE1 {a : Addr} {xs : List V} {q : Addr → Prop} (hq : SqL K H a xs) (h : q a) : ∃ p xs, [V.ref a] = [.ref p] ∧ SqL K H p xs ∧ q p := ⟨a, xs, rfl, hq, h⟩
theorem gZ1 {a b : Addr} {xs ys : List V} {r : Addr → Addr → Prop} (hq : SqL K H a xs) (hp : SqL K H b ys) (h : r a b) : ∃ p q xs ys, [V.ref a, V.ref b] = [.ref p, .ref q] ∧ SqL K H p xs ∧ SqL K H q ys ∧ r p q := ⟨a, b, xs, ys, rfl, hq, hp, h⟩
/-- reversed(range(n)), reversed(range(a, b)) -/
def ItR (a n : Nat) : It := Itc ((a : Int) + (n : Int) - 1) (-1) n
theorem gRvN {n : Nat} {q : Int → Prop} (hn : n ≤ 1000000) (h : q (n : Int)) : ∃ j : Int, V.int (n : Int) = .int j ∧ -(2 ^ 62) ≤ (0 : Int) ∧ (0 : Int) < 2 ^ 62 ∧ -(2 ^ 62) ≤ j ∧ j < 2 ^ 62 ∧ q j :=
  ⟨n, rfl, by omega, by omega, by omega, by omega, h⟩
theorem gRvN2 {a n : Nat} {q : Int → Int → Prop} (hn : n ≤ 1000000) (ha : a ≤ 1000000) (h : q (a : Int) (n : Int)) : ∃ i j : Int, V.int (a : Int) = .int i ∧ V.int (n : Int) = .int j ∧ -(2 ^ 62) ≤ i ∧ i < 2 ^ 62 ∧ -(2 ^ 62) ≤ j ∧ j < 2 ^ 62 ∧ q i j :=
  ⟨a, n, rfl, rfl, by omega, by omega, by omega, by omega, h⟩
theorem wRev {a n : Nat} : Walk (ItR a n) n (fun _ => True) (fun i H x H' => H' = H ∧ x = .int ((a + n - 1 - i : Nat) : Int)) :=
  walk_rangeC.mono (fun _ h => h) fun i H x H' hi _ y => ⟨y.1, by rw [y.2]; exact congrArg V.int (by omega)⟩
theorem wRv0 {n : Nat} : Walk (Itc (0 + ((((n : Int) - 0).toNat : Nat) : Int) - 1) (-1) ((n : Int) - 0).toNat) n (fun _ => True) (fun i H x H' => H' = H ∧ x = .int ((n - 1 - i : Nat) : Int)) := by
  rw [show ((n : Int) - 0).toNat = n by omega]
  exact walk_rangeC.mono (fun _ h => h) fun i H x H' hi _ y => ⟨y.1, by rw [y.2]; exact congrArg V.int (by omega)⟩
theorem wRv2 {a n : Nat} (ha : a ≤ n) : Walk (Itc ((a : Int) + ((((n : Int) - (a : Int)).toNat : Nat) : Int) - 1) (-1) ((n : Int) - (a : Int)).toNat) (n - a) (fun _ => True) (fun i H x H' => H' = H ∧ x = .int ((n - 1 - i : Nat) : Int)) := by
  rw [show ((n : Int) - (a : Int)).toNat = n - a by omega]
  exact walk_rangeC.mono (fun _ h => h) fun i H x H' hi _ y => ⟨y.1, by rw [y.2]; exact congrArg V.int (by omega)⟩
theorem gRv {tr : St → Hp → (Int → Int → Hp → Prop) → Prop} {σ : St} {H : Hp} {R : It → Hp → Prop} (h : tr σ H fun a b H1 => -(2 ^ 62) ≤ a ∧ a < 2 ^ 62 ∧ -(2 ^ 62) ≤ b ∧ b < 2 ^ 62 ∧ R (Itc (a + (((b - a).toNat : Nat) : Int) - 1) (-1) (b - a).toNat) H1) : iRevR tr σ H R := h
theorem gRg1 {t : TE} {σ : St} {H : Hp} {Q : Int → Int → Hp → Prop} (h : t σ H fun x H1 => ∃ n, x = .int n ∧ Q 0 n H1) : tRg1 t σ H Q := h
theorem gRg2 {t u : TE} {σ : St} {H : Hp} {Q : Int → Int → Hp → Prop} (h : t σ H fun x H1 => u σ H1 fun y H2 => ∃ i j, x = .int i ∧ y = .int j ∧ Q i j H2) : tRg2 t u σ H Q := h
theorem gD2 {f : Int → Int → V} {i : Int} (h : Q (f i 2) H) : rI CDiv f (.int i) (.int 2) H Q := gI ⟨by decide, by decide⟩ h
theorem gD4 {f : Int → Int → V} {i : Int} (h : Q (f i 4) H) : rI CDiv f (.int i) (.int 4) H Q := gI ⟨by decide, by decide⟩ h
theorem gM2 {f : Int → Int → V} {i : Int} (h : Q (f 2 i) H) : rI CMul f (.int 2) (.int i) H Q := gI (Or.inl ⟨by decide, by decide⟩) h
theorem gDyn {P : Program} {w : World} {mg : Str → Option Value} {base : Heap} {kk : Nat} {m : Str} {te : TE} (h : te σ H fun x H1 => ∃ a C dx fs f p, x = .ref a ∧ H1 a = some (.ins C dx fs) ∧ fs.lookup m = none ∧ Cls K C ∧ Meth K C m f ∧ OkF P w K mg base kk f p ∧ ta σ H1 fun vs H2 => p (x :: vs) H2 Q) : tD P w K mg base kk m te ta σ H Q := h
theorem gS1 {z : Str} {q : Str → Prop} (h : q z) : ∃ y, V.str z = .str y ∧ q y := ⟨z, rfl, h⟩
end
theorem wRange {m : Nat} : Walk (Itr 0 m) m (fun _ => True) (fun i H x H' => H' = H ∧ x = .int (i : Int)) :=
  walk_range.mono (fun _ h => h) fun i H x H' _ _ y => ⟨y.1, by rw [y.2]; show V.int (0 + (i : Int)) = V.int (i : Int); rw [Int.zero_add]⟩
theorem wRange2 {lo : Int} {m : Nat} : Walk (Itr lo m) m (fun _ => True) (fun i H x H' => H' = H ∧ x = .int (lo + (i : Int))) := walk_range
theorem wTab {K : PySem.W.Frag} {a : Addr} {m : Nat} {f : Nat → V} : Walk (Itl K a) m (fun H => SqL K H a (tab m f)) (fun i H x H' => H' = H ∧ x = f i) := by
  have w := walk_list (K := K) (a := a) (xs := tab m f)
  rw [tab_len] at w
  exact w.mono (fun _ h => h) fun i H x H' hi _ y => ⟨y.1, by have := y.2; rw [tab_get hi] at this; exact (Option.some.inj this).symm⟩
theorem line_le {n : Nat} (h : n ≤ 1000000) : n ≤ sizeLine := by rw [sizeLine_eq]; omega
theorem line_lt {n : Nat} (h : n ≤ 1000000) : n < sizeLine := by rw [sizeLine_eq]; omega
end Kp
/-! the built-ins by their names, isinstance's answers -/
namespace Kp
open PySem PySem.Spec L2
theorem bt_len : bootBuiltins "len" = some (.builtin "len") := PySem.boot_len
theorem bt_isinstance : bootBuiltins "isinstance" = some (.builtin "isinstance") := PyProof.Rows.boot_isinstance
theorem bt_abs : bootBuiltins "abs" = some (.builtin "abs") := PyProof.Rows.boot_abs
theorem bt_max : bootBuiltins "max" = some (.builtin "max") := PyProof.Rows.boot_max
theorem bt_min : bootBuiltins "min" = some (.builtin "min") := PyProof.Rows.boot_min
theorem bt_sorted : bootBuiltins "sorted" = some (.builtin "sorted") := PyProof.Rows.boot_sorted
theorem bt_repr : bootBuiltins "repr" = some (.builtin "repr") := PyProof.Rows.boot_repr
theorem bt_ord : bootBuiltins "ord" = some (.builtin "ord") := PyProof.Rows.boot_ord
theorem bt_int : bootBuiltins "int" = some (.type "int") := PyProof.Rows.boot_int
theorem bt_bool : bootBuiltins "bool" = some (.type "bool") := PyProof.Rows.boot_bool
theorem bt_str : bootBuiltins "str" = some (.type "str") := PyProof.Rows.boot_str
theorem bt_list : bootBuiltins "list" = some (.type "list") := PyProof.Rows.boot_list
theorem bt_tuple : bootBuiltins "tuple" = some (.type "tuple") := PyProof.Rows.boot_tuple
theorem bt_set : bootBuiltins "set" = some (.type "set") := PyProof.Rows.boot_set
theorem bt_dict : bootBuiltins "dict" = some (.type "dict") := PyProof.Rows.boot_dict
/-- isinstance(x, T) is b -/
inductive Isi (K : PySem.W.Frag) (H : Hp) : V → V → Bool → Prop where
  | mk {x c : V} {t u : Value} {b : Bool} (h1 : ClsV c u) (h2 : TyX K H x t) (h3 : PySem.W.kitOne K t u = some b) : Isi K H x c b
section
variable {K : PySem.W.Frag} {mg : Str → Option Value} {H : Hp} {Q : VK} {x c : V} {b : Bool} {a : Addr} {xs : List V}
theorem gIsi (i : Isi K H x c b) (h : Q (.bl b) H) : rIsi K [x, c] H Q := by
  obtain ⟨h1, h2, h3⟩ := i
  exact ⟨x, c, _, _, b, rfl, h1, h2, h3, h⟩
theorem Isi.ii {n : Int} : Isi K H (.int n) (.ty "int") true := .mk (.ty _) (.base (.int n)) (kit_ty (by decide +kernel))
theorem Isi.ib {n : Int} : Isi K H (.int n) (.ty "bool") false := .mk (.ty _) (.base (.int n)) (kit_ty (by decide +kernel))
theorem Isi.ss {z : Str} : Isi K H (.str z) (.ty "str") true := .mk (.ty _) (.base (.str z)) (kit_ty (by decide +kernel))
theorem Isi.ll (h : H a = some (.lst xs)) : Isi K H (.ref a) (.ty "list") true := .mk (.ty _) (.base (.lst h)) (kit_ty (by decide +kernel))
theorem Isi.tt (h : H a = some (.tup xs)) : Isi K H (.ref a) (.ty "tuple") true := .mk (.ty _) (.base (.tup h)) (kit_ty (by decide +kernel))
theorem insC_Field (S : TX K mg) : C8.InsC K (He.ga K "Field") := by
  have h := isi_Field S
  obtain ⟨h1, h⟩ := He.ba h
  obtain ⟨h2, h⟩ := He.ba h
  obtain ⟨h3, h⟩ := He.ba h
  obtain ⟨h4, h5⟩ := He.ba h
  exact ⟨cls_Field S, He.eqO_ok h1, of_decide_eq_true h2, of_decide_eq_true h3, of_decide_eq_true h4, of_decide_eq_true h5⟩
end
end Kp
local macro_rules | `(tactic| tm_at "go") => `(tactic| repeat (first | (with_reducible first | refine Kp.gSeq ?_ | refine Kp.gAsg ?_ | refine Kp.gNm ?_ | refine Kp.gOp ?_ | refine Kp.gC ?_ | refine Kp.gI0 ?_ | refine Kp.gCons0 ?_ | refine Kp.gNil0 ?_ | refine Kp.gTest ?_ | refine Kp.gBl ?_ | refine Kp.gIfS ?_ | refine Kp.gB ?_ | refine Kp.gRet ?_ | refine Kp.gNext ?_ | refine Kp.gFn ?_ | refine Kp.gMeth ?_ | refine Kp.gMk ?_ | refine Kp.gCB ?_ | refine Kp.gFld ?_ | refine Kp.gNot ?_ | refine Kp.gOr ?_ | refine Kp.gAnd ?_ | refine Kp.gChain ?_ | refine Kp.gUn ?_ | refine Kp.gU ?_ | refine Kp.gTupE ?_ | refine Kp.gLstE ?_ | refine Kp.gDrop ?_ | refine Kp.gBM ?_ | refine Kp.gSl ?_ | refine Kp.gNoP ?_ | refine Kp.gPart ?_ | refine Kp.gPartE ?_ | refine Kp.gFor ?_ | refine Kp.gLc ?_ | refine Kp.gYes ?_ | refine Kp.gSFld ?_ | refine Kp.gSb ?_ | refine Kp.gCs ?_ | refine Kp.gNl ?_ | refine Kp.gIL ?_ | refine Kp.gITup ?_ | refine Kp.gIR1 ?_ | refine Kp.gIR2 ?_ | refine Kp.gIE ?_ | refine Kp.gIZ ?_ | refine Kp.gIS ?_ | refine Kp.gAndV ?_ | refine Kp.gOrV ?_ | refine Kp.gNotV ?_ | refine Kp.gS1 ?_ | refine Kp.gDyn ?_ | refine Kp.gRv ?_ | refine Kp.gRg1 ?_ | refine Kp.gRg2 ?_ | refine Kp.gD2 ?_ | refine Kp.gD4 ?_ | refine Kp.gM2 ?_ | refine Kp.gBreak ?_ | refine Kp.gCont ?_ | refine Kp.gRetN ?_) | ((with_reducible apply Kp.gVar); (focus exact rfl)) | ((with_reducible refine Kp.gIfT ?_ ?_); (focus exact rfl)) | ((with_reducible refine Kp.gIfF ?_ ?_); (focus exact rfl)) | ((with_reducible refine Kp.gEq ?_ ?_); (focus exact rfl)) | ((with_reducible refine Kp.gNe ?_ ?_); (focus exact rfl)) | ((with_reducible apply Kp.gIsi); (focus (first | exact Kp.Isi.ii | exact Kp.Isi.ib | exact Kp.Isi.ss | exact Kp.Isi.ll (by assumption) | exact Kp.Isi.tt (by assumption))))))
local macro_rules | `(tactic| tm_at "gi") => `(tactic| repeat (first | (with_reducible first | refine Kp.gAsg ?_ | refine Kp.gNm ?_ | refine Kp.gOp ?_ | refine Kp.gC ?_ | refine Kp.gI0 ?_ | refine Kp.gTest ?_ | refine Kp.gBl ?_ | refine Kp.gIfS ?_ | refine Kp.gAnd ?_ | refine Kp.gRet ?_ | refine Kp.gNext ?_ | refine Kp.gMeth ?_ | refine Kp.gFld ?_ | refine Kp.gCons0 ?_ | refine Kp.gNil0 ?_) | ((with_reducible apply Kp.gVar); (focus exact rfl)) | ((with_reducible refine Kp.gIfT ?_ ?_); (focus exact rfl)) | ((with_reducible refine Kp.gIfF ?_ ?_); (focus exact rfl)) | ((with_reducible refine Kp.gEq ?_ ?_); (focus exact rfl))))
/-! kinds and fields -/
namespace Kp
open PySem PySem.Spec L2
/-- a row of irow -/
abbrev irow (n : Nat) (f : Nat → Int) : List V := tab n fun i => .int (f i)
/-- rows of irow, each a list of its own -/
structure Rows (H : Hp) (a : Addr) (ra : Nat → Addr) (h w : Nat) (g : Nat → Nat → Int) : Prop where
  top : H a = some (.lst (tab h fun y => .ref (ra y)))
  row : ∀ y, y < h → H (ra y) = some (.lst (irow w (g y)))
theorem Rows.same {H H' : Hp} {a : Addr} {ra : Nat → Addr} {h w : Nat} {g : Nat → Nat → Int} (r : Rows H a ra h w g) (s : Same H H') : Rows H' a ra h w g := ⟨s _ _ r.top, fun y q => s _ _ (r.row y q)⟩
/-- the sizes that a field has -/
structure Sz (h w : Nat) : Prop where
  h1 : 1 ≤ h
  h2 : h ≤ 64
  w1 : 1 ≤ w
  w2 : w ≤ 64
  hw : h * w ≤ 512
/-- all numbers from -b to b -/
def Bd (b : Int) (h w : Nat) (g : Nat → Nat → Int) : Prop := ∀ y x, y < h → x < w → -b ≤ g y x ∧ g y x ≤ b
theorem Bd.mono {b c : Int} {h w : Nat} {g : Nat → Nat → Int} (k : Bd b h w g) (l : b ≤ c) : Bd c h w g := fun y x a d => ⟨by have := (k y x a d).1; omega, by have := (k y x a d).2; omega⟩
def fF (a : Addr) : List (Str × V) := [("lines", .ref a)]
structure FieldAt (K : PySem.W.Frag) (H : Hp) (p : Addr) (h w : Nat) (g : Nat → Nat → Int) : Prop where
  at_ : ∃ (dx a : Addr) (ra : Nat → Addr), H p = some (.ins (He.ga K "Field") dx (fF a)) ∧ Rows H a ra h w g
  sz : Sz h w
  bd : Bd 999999999999999 h w g
theorem FieldAt.same {K : PySem.W.Frag} {H H' : Hp} {p : Addr} {h w : Nat} {g : Nat → Nat → Int} (f : FieldAt K H p h w g) (s : Same H H') : FieldAt K H' p h w g :=
  let ⟨dx, a, ra, e, r⟩ := f.at_; ⟨⟨dx, a, ra, s _ _ e, r.same s⟩, f.sz, f.bd⟩
def p_is_whole : Pm := fun vs H Q => ∃ n lo hi : Int, vs = [.int n, .int lo, .int hi] ∧ lo ≤ n ∧ n ≤ hi ∧ Q (.bl true) H
def p_is_row : Pm := fun vs H Q => ∃ (a : Addr) (n : Nat) (f : Nat → Int) (l : Int), vs = [.ref a, .int l] ∧ H a = some (.lst (irow n f)) ∧ l ≤ n ∧ n ≤ 64 ∧ (∀ i, i < n → -999999999999999 ≤ f i ∧ f i ≤ 999999999999999) ∧ Q (.bl true) H
def p_are_rows : Pm := fun vs H Q => ∃ (a : Addr) (ra : Nat → Addr) (h w : Nat) (g : Nat → Nat → Int), vs = [.ref a] ∧ Rows H a ra h w g ∧ Sz h w ∧ Bd 999999999999999 h w g ∧ Q (.bl true) H
theorem Rows.of {H0 H : Hp} {a : Addr} {ra : Nat → Addr} {h w : Nat} {g : Nat → Nat → Int} (x : NewL H0 H a h ra fun y => .lst (irow w (g y))) : Rows H a ra h w g := ⟨x.top, x.it⟩
def p_Field_init (K : PySem.W.Frag) : Pm := fun vs H Q => ∃ (p dx a : Addr) (ra : Nat → Addr) (h w : Nat) (g : Nat → Nat → Int), vs = [.ref p, .ref a] ∧ H p = some (.ins (He.ga K "Field") dx []) ∧ Rows H a ra h w g ∧ Sz h w ∧ Bd 999999999999999 h w g ∧
  ∀ H', (∀ b o, b ≠ p → H b = some o → H' b = some o) → FieldAt K H' p h w g → Q .non H'
def p_Field_height (K : PySem.W.Frag) : Pm := fun vs H Q => ∃ (p : Addr) (h w : Nat) (g : Nat → Nat → Int), vs = [.ref p] ∧ FieldAt K H p h w g ∧ Q (.int h) H
def p_Field_width (K : PySem.W.Frag) : Pm := fun vs H Q => ∃ (p : Addr) (h w : Nat) (g : Nat → Nat → Int), vs = [.ref p] ∧ FieldAt K H p h w g ∧ Q (.int w) H
def p_Field_rows (K : PySem.W.Frag) : Pm := fun vs H Q => ∃ (p : Addr) (h w : Nat) (g : Nat → Nat → Int), vs = [.ref p] ∧ FieldAt K H p h w g ∧ ∀ a ra H', NewL H H' a h ra (fun y => .lst (irow w (g y))) → Q (.ref a) H'
def p_Field_flat (K : PySem.W.Frag) : Pm := fun vs H Q => ∃ (p : Addr) (h w : Nat) (g : Nat → Nat → Int), vs = [.ref p] ∧ FieldAt K H p h w g ∧ ∀ D H', H D = none → Same H H' → H' D = some (.lst (irow (h * w) fun k => g (k / w) (k % w))) → Q (.ref D) H'
def p_Field_places (K : PySem.W.Frag) : Pm := fun vs H Q => ∃ (p : Addr) (h w : Nat) (g : Nat → Nat → Int), vs = [.ref p] ∧ FieldAt K H p h w g ∧ ∀ D H' (ta : Nat → Addr), Same H H' → H' D = some (.lst (tab (h * w) fun k => .ref (ta k))) →
  (∀ k, k < h * w → H' (ta k) = some (.tup [.int ((k / w : Nat) : Int), .int ((k % w : Nat) : Int)])) → Q (.ref D) H'
def p_Field_is_place (K : PySem.W.Frag) : Pm := fun vs H Q => ∃ (p t : Addr) (h w : Nat) (g : Nat → Nat → Int) (y x : Nat), vs = [.ref p, .ref t] ∧ FieldAt K H p h w g ∧ H t = some (.tup [.int (y : Int), .int (x : Int)]) ∧ y < h ∧ x < w ∧ Q (.bl true) H
def p_Field_at (K : PySem.W.Frag) : Pm := fun vs H Q => ∃ (p t : Addr) (h w : Nat) (g : Nat → Nat → Int) (y x : Nat), vs = [.ref p, .ref t] ∧ FieldAt K H p h w g ∧ H t = some (.tup [.int (y : Int), .int (x : Int)]) ∧ y < h ∧ x < w ∧ Q (.int (g y x)) H
def p_need_field (K : PySem.W.Frag) : Pm := fun vs H Q => ∃ (p t : Addr) (h w : Nat) (g : Nat → Nat → Int) (m : Int), vs = [.ref p, .ref t, .int m] ∧ FieldAt K H p h w g ∧ H t = some (.tup [.int (h : Int), .int (w : Int)]) ∧ Bd m h w g ∧ ∀ H', Same H H' → Q .non H'
section
variable {P : Program} {w : World} {K : PySem.W.Frag} {mg : Str → Option Value} {base : Heap}
theorem ok_is_whole (S : TX K mg) : OkF P w K mg base 1 (He.ga K "is_whole") (p_is_whole) := by
  refine okF (F_is_whole S) sc_is_whole (by tm_at "len") (fun _ _ _ _ _ _ us hl => match us, hl with | [_, _, _], _ => rfl) (fun cdv A outer s H vs Q E hr h => ?_)
  obtain ⟨n, lo, hi, rfl, h1, h2, q⟩ := h
  refine ⟨_, (pss_cons (ps_if (PW.pt (pw_or (pt_not (pt_val (pe_callB (kIsi (K := K) rfl) rfl (fr_isinstance S) bt_isinstance (pa_cons (pv 0) (pa_cons (pe_bltn (v := .ty "int") rfl (fr_int S) bt_int rfl) pa_nil))))) (pw_or1 (pt_val (pe_callB (kIsi (K := K) rfl) rfl (fr_isinstance S) bt_isinstance (pa_cons (pv 0) (pa_cons (pe_bltn (v := .ty "bool") rfl (fr_bool S) bt_bool rfl) pa_nil))))))) (pss_one (ps_ret pe_bl)) pss_nil)
    (pss_one (ps_ret (pe_chain op_le op_le (pv 1) (pv 0) (pv 2))))), ?_⟩
  tm_at "go"
  refine gIfT (decide_eq_true h1) ?_
  tm_at "go"
  rw [decide_eq_true h2]
  exact q
theorem ok_is_row (S : TX K mg) : OkF P w K mg base 2 (He.ga K "is_row") (p_is_row) := by
  refine okF (F_is_row S) sc_is_row (by tm_at "len") (fun _ _ _ _ _ _ us hl => match us, hl with | [_, _], _ => rfl) (fun cdv A outer s H vs Q E hr h => ?_)
  obtain ⟨tFIGURES, gFIGURES⟩ := int_FIGURES S
  obtain ⟨a, n, f, l, rfl, ha, h1, h2, hb, q⟩ := h
  refine ⟨_, (pss_cons (ps_if (PW.pt (pw_or (pt_not (pt_val (pe_callB (kIsi (K := K) rfl) rfl (fr_isinstance S) bt_isinstance (pa_cons (pv 0) (pa_cons (pe_bltn (v := .ty "list") rfl (fr_list S) bt_list rfl) pa_nil))))) (pw_or1 (pt_not (pt_chain op_le op_le (pv 1) (pe_callB (kLen (K := K) rfl) rfl (fr_len S) bt_len (pa_cons (pv 0) pa_nil)) pe_int))))) (pss_one (ps_ret pe_bl)) pss_nil)
    (pss_cons (ps_for PassesOwn.never rfl (kList (K := K) rfl (pv 0)) (pg_name (i := 2) sc_is_row.nd rfl (Or.inl rfl)) (pss_one (ps_if (pt_not (pt_val (pe_f (ok_is_whole S) (hr.mono (by decide)) rfl (glo_is_whole S) (pa_cons (pv 2) (pa_cons (pe_un un_neg (pe_glob (v := .int 999999999999999) rfl gFIGURES ⟨_, rfl⟩)) (pa_cons (pe_glob (v := .int 999999999999999) rfl gFIGURES ⟨_, rfl⟩) pa_nil)))))) (pss_one (ps_ret pe_bl)) pss_nil)))
    (pss_one (ps_ret pe_bl)))), ?_⟩
  tm_at "go"
  refine ⟨_, n, rfl, .inl ⟨_, SqL.of ha, tab_len.symm⟩, ?_⟩
  tm_at "go"
  refine gIfT (decide_eq_true h1) ?_
  tm_at "go"
  refine gIfF (by rw [decide_eq_true (by omega : (n : Int) ≤ 64)]; rfl) ?_
  tm_at "go"
  refine gL1 (SqL.of ha) ?_
  refine forIt (wTab (m := n) (f := fun i => .int (f i))) (fun i σ H' => H' = H ∧ ∃ v, σ = [some (.ref a), some (.int l), v]) ⟨rfl, none, rfl⟩ (fun i σ H' _ z => by rw [z.1]; exact SqL.of ha) ?_ ?_
  · rintro i x σ H1 H2 hi ⟨rfl, v, rfl⟩ ⟨rfl, rfl⟩
    tm_at "go"
    refine ⟨f i, _, _, rfl, (hb i hi).1, (hb i hi).2, ?_⟩
    tm_at "go"
    exact ⟨rfl, _, rfl⟩
  · rintro σ H1 ⟨rfl, v, rfl⟩
    tm_at "go"
    exact q
theorem ok_are_rows (S : TX K mg) : OkF P w K mg base 3 (He.ga K "are_rows") (p_are_rows) := by
  refine okF (F_are_rows S) sc_are_rows (by tm_at "len") (fun _ _ _ _ _ _ us hl => match us, hl with | [_], _ => rfl) (fun cdv A outer s H vs Q E hr h => ?_)
  obtain ⟨a, ra, h, n, g, rfl, R, z, hb, q⟩ := h
  refine ⟨_, (pss_cons (ps_if (PW.pt (pw_or (pt_not (pt_val (pe_callB (kIsi (K := K) rfl) rfl (fr_isinstance S) bt_isinstance (pa_cons (pv 0) (pa_cons (pe_bltn (v := .ty "list") rfl (fr_list S) bt_list rfl) pa_nil))))) (pw_or1 (pt_not (pt_chain op_le op_le pe_int (pe_callB (kLen (K := K) rfl) rfl (fr_len S) bt_len (pa_cons (pv 0) pa_nil)) pe_int))))) (pss_one (ps_ret pe_bl)) pss_nil)
    (pss_cons (ps_for PassesOwn.never rfl (kList (K := K) rfl (pv 0)) (pg_name (i := 1) sc_are_rows.nd rfl (Or.inl rfl)) (pss_one (ps_if (PW.pt (pw_or (pt_not (pt_val (pe_f (ok_is_row S) (hr.mono (by decide)) rfl (glo_is_row S) (pa_cons (pv 1) (pa_cons pe_int pa_nil))))) (pw_or1 (pt_cmpR op_ne (pe_callB (kLen (K := K) rfl) rfl (fr_len S) bt_len (pa_cons (pv 1) pa_nil)) (pe_callB (kLen (K := K) rfl) rfl (fr_len S) bt_len (pa_cons (pe_ix (kIxL (K := K) rfl) (pv 0) pe_int (fun _ _ => rfl)) pa_nil)) (nomark _))))) (pss_one (ps_ret pe_bl)) pss_nil)))
    (pss_one (ps_ret (pe_cmpR op_le (pe_op op_mul (pe_callB (kLen (K := K) rfl) rfl (fr_len S) bt_len (pa_cons (pv 0) pa_nil)) (pe_callB (kLen (K := K) rfl) rfl (fr_len S) bt_len (pa_cons (pe_ix (kIxL (K := K) rfl) (pv 0) pe_int (fun _ _ => rfl)) pa_nil))) pe_int (nomark _)))))), ?_⟩
  have ha := R.top
  tm_at "go"
  refine ⟨_, h, rfl, .inl ⟨_, SqL.of ha, tab_len.symm⟩, ?_⟩
  tm_at "go"
  refine gIfT (decide_eq_true (by have := z.h1; omega)) ?_
  tm_at "go"
  refine gIfF (by rw [decide_eq_true (by have := z.h2; omega : (h : Int) ≤ 64)]; rfl) ?_
  tm_at "go"
  refine gL1 (SqL.of ha) ?_
  refine forIt (wTab (m := h) (f := fun y => .ref (ra y))) (fun i σ H' => H' = H ∧ ∃ v, σ = [some (.ref a), v]) ⟨rfl, none, rfl⟩ (fun i σ H' _ z => by rw [z.1]; exact SqL.of ha) ?_ ?_
  · rintro i x σ H1 H2 hi ⟨rfl, v, rfl⟩ ⟨rfl, rfl⟩
    tm_at "go"
    refine ⟨ra i, n, g i, 1, rfl, R.row i hi, by have := z.w1; omega, z.w2, fun j hj => hb i j hi hj, ?_⟩
    tm_at "go"
    refine ⟨_, n, rfl, .inl ⟨_, SqL.of (R.row i hi), tab_len.symm⟩, ?_⟩
    tm_at "go"
    refine gIxL (SqL.of ha) (at_tab (i := 0) (by omega)) ?_
    tm_at "go"
    refine ⟨_, n, rfl, .inl ⟨_, SqL.of (R.row 0 (by omega)), tab_len.symm⟩, ?_⟩
    tm_at "go"
    refine gIfF (by rw [decide_eq_true rfl]; rfl) ?_
    tm_at "go"
    exact ⟨rfl, _, rfl⟩
  · rintro σ H1 ⟨rfl, v, rfl⟩
    have h0 : 0 < h := z.h1
    tm_at "go"
    refine ⟨_, h, rfl, .inl ⟨_, SqL.of ha, tab_len.symm⟩, ?_⟩
    tm_at "go"
    refine gIxL (SqL.of ha) (at_tab (i := 0) h0) ?_
    tm_at "go"
    refine ⟨_, n, rfl, .inl ⟨_, SqL.of (R.row 0 h0), tab_len.symm⟩, ?_⟩
    tm_at "go"
    refine gI (.inl (by have := z.h2; omega)) ?_
    tm_at "go"
    rw [decide_eq_true (by have := z.hw; rw [← Int.natCast_mul]; omega : (h : Int) * (n : Int) ≤ 512)]
    exact q
theorem ok_Field_init (S : TX K mg) : OkF P w K mg base 4 (He.ma K (He.ga K "Field") "__init__") (p_Field_init K) := by
  refine okF (F_Field_init S) sc_Field_init (by tm_at "len") (fun _ _ _ _ _ _ us hl => match us, hl with | [_, _], _ => rfl) (fun cdv A outer s H vs Q E hr h => ?_)
  obtain ⟨p, dx, a, ra, h, n, g, rfl, hp, R, z, hb, q⟩ := h
  refine ⟨_, (pss_cons (ps_if (pt_not (pt_val (pe_f (ok_are_rows S) (hr.mono (by decide)) rfl (glo_are_rows S) (pa_cons (pv 1) pa_nil)))) (pss_one ps_never) pss_nil)
    (pss_one (kSFld (K := K) rfl (pv 0) (pe_lc (own := [("row", 2)]) (g := gName 2) (tt := tYes) rfl sc_Field_init.nd (kList (K := K) rfl (pv 1)) (blkOk_by (own := [("row", 2)]) (N := ["self", "rows", "row"]) (sc := defScope s_Field_init) (by decide +kernel)) (fun _ _ _ _ _ => (pg_name (i := 2) sc_Field_init.nd rfl (Or.inl rfl))) (fun _ _ _ _ _ => pts_nil) (fun _ _ _ _ _ => (pe_callTy (kListOf (K := K) rfl) rfl (fr_list S) bt_list (pa_cons (pv 2) pa_nil)))) rfl))), ?_⟩
  tm_at "go"
  refine ⟨a, ra, h, n, g, rfl, R, z, hb, ?_⟩
  tm_at "go"
  refine gL1 (SqL.of R.top) ?_
  intro D hD
  refine lcIt (wTab (m := h) (f := fun y => .ref (ra y))) (fun i H' => ∃ rb, NewL H H' D i rb fun y => .lst (irow n (g y))) ⟨ra, NewL.nil hD⟩ (fun i H' _ ⟨rb, z⟩ => SqL.of (z.same _ _ R.top)) ?_ ?_
  · rintro i x H1 H2 hi ⟨rb, N⟩ ⟨rfl, rfl⟩
    tm_at "go"
    refine ⟨rfl, ?_⟩
    tm_at "go"
    refine ⟨ra i, _, rfl, .inl (SqL.of (N.same _ _ (R.row i hi))), fun l hl => ?_⟩
    refine ⟨_, get_new hl N.top, by rw [tab_len]; exact line_lt (by have := z.h2; omega), _, N.push hl upd_same (Same.new hl)⟩
  · rintro H1 ⟨rb, N⟩
    tm_at "go"
    refine ⟨p, _, dx, [], rfl, N.same _ _ hp, cls_Field S, na_Field_lines S, by decide, ?_⟩
    have pD : p ≠ D := ne_of_none hp hD
    refine q _ (fun b o nb e => by rw [upd_ne nb]; exact N.same _ _ e) ⟨⟨dx, D, rb, upd_same, ?_⟩, z, hb⟩
    have np : ∀ i, i < h → rb i ≠ p := fun i hi e => by
      have k := N.fr i hi
      rw [e, hp] at k
      cases k
    exact ⟨by rw [upd_ne pD.symm]; exact N.top, fun y hy => by rw [upd_ne (np y hy)]; exact N.it y hy⟩
theorem ok_Field_height (S : TX K mg) : OkF P w K mg base 1 (He.ma K (He.ga K "Field") "height") (p_Field_height K) := by
  refine okF (F_Field_height S) sc_Field_height (by tm_at "len") (fun _ _ _ _ _ _ us hl => match us, hl with | [_], _ => rfl) (fun cdv A outer s H vs Q E hr h => ?_)
  obtain ⟨p, h, n, g, rfl, ⟨⟨dx, a, ra, hp, R⟩, z, hb⟩, q⟩ := h
  refine ⟨_, (pss_one (ps_ret (pe_callB (kLen (K := K) rfl) rfl (fr_len S) bt_len (pa_cons (kFld (K := K) rfl (pv 0) rfl) pa_nil)))), ?_⟩
  tm_at "go"
  refine gFldE hp (cls_Field S) (na_Field_lines S) rfl ?_
  refine ⟨_, h, rfl, .inl ⟨_, SqL.of R.top, tab_len.symm⟩, q⟩
theorem ok_Field_width (S : TX K mg) : OkF P w K mg base 1 (He.ma K (He.ga K "Field") "width") (p_Field_width K) := by
  refine okF (F_Field_width S) sc_Field_width (by tm_at "len") (fun _ _ _ _ _ _ us hl => match us, hl with | [_], _ => rfl) (fun cdv A outer s H vs Q E hr h => ?_)
  obtain ⟨p, h, n, g, rfl, ⟨⟨dx, a, ra, hp, R⟩, z, hb⟩, q⟩ := h
  refine ⟨_, (pss_one (ps_ret (pe_callB (kLen (K := K) rfl) rfl (fr_len S) bt_len (pa_cons (pe_ix (kIxL (K := K) rfl) (kFld (K := K) rfl (pv 0) rfl) pe_int (fun _ _ => rfl)) pa_nil)))), ?_⟩
  tm_at "go"
  refine gFldE hp (cls_Field S) (na_Field_lines S) rfl ?_
  tm_at "go"
  refine gIxL (SqL.of R.top) (at_tab (i := 0) z.h1) ?_
  exact ⟨_, n, rfl, .inl ⟨_, SqL.of (R.row 0 z.h1), tab_len.symm⟩, q⟩
theorem ok_Field_rows (S : TX K mg) : OkF P w K mg base 1 (He.ma K (He.ga K "Field") "rows") (p_Field_rows K) := by
  refine okF (F_Field_rows S) sc_Field_rows (by tm_at "len") (fun _ _ _ _ _ _ us hl => match us, hl with | [_], _ => rfl) (fun cdv A outer s H vs Q E hr h => ?_)
  obtain ⟨p, h, n, g, rfl, ⟨⟨dx, a, ra, hp, R⟩, z, hb⟩, q⟩ := h
  refine ⟨_, (pss_one (ps_ret (pe_lc (own := [("row", 1)]) (g := gName 1) (tt := tYes) rfl sc_Field_rows.nd (kList (K := K) rfl (kFld (K := K) rfl (pv 0) rfl)) (blkOk_by (own := [("row", 1)]) (N := ["self", "row"]) (sc := defScope s_Field_rows) (by decide +kernel)) (fun _ _ _ _ _ => (pg_name (i := 1) sc_Field_rows.nd rfl (Or.inl rfl))) (fun _ _ _ _ _ => pts_nil) (fun _ _ _ _ _ => (pe_callTy (kListOf (K := K) rfl) rfl (fr_list S) bt_list (pa_cons (pv 1) pa_nil)))))), ?_⟩
  tm_at "go"
  refine gFldE hp (cls_Field S) (na_Field_lines S) rfl ?_
  refine gL1 (SqL.of R.top) ?_
  intro D hD
  refine lcIt (wTab (m := h) (f := fun y => .ref (ra y))) (fun i H' => ∃ rb, NewL H H' D i rb fun y => .lst (irow n (g y))) ⟨ra, NewL.nil hD⟩ (fun i H' _ ⟨rb, z⟩ => SqL.of (z.same _ _ R.top)) ?_ ?_
  · rintro i x H1 H2 hi ⟨rb, N⟩ ⟨rfl, rfl⟩
    tm_at "go"
    refine ⟨rfl, ?_⟩
    tm_at "go"
    refine ⟨ra i, _, rfl, .inl (SqL.of (N.same _ _ (R.row i hi))), fun l hl => ?_⟩
    refine ⟨_, get_new hl N.top, by rw [tab_len]; exact line_lt (by have := z.h2; omega), _, N.push hl upd_same (Same.new hl)⟩
  · rintro H1 ⟨rb, N⟩
    exact q _ _ _ N
theorem ok_Field_flat (S : TX K mg) : OkF P w K mg base 1 (He.ma K (He.ga K "Field") "flat") (p_Field_flat K) := by
  refine okF (F_Field_flat S) sc_Field_flat (by tm_at "len") (fun _ _ _ _ _ _ us hl => match us, hl with | [_], _ => rfl) (fun cdv A outer s H vs Q E hr h => ?_)
  obtain ⟨p, h, n, g, rfl, ⟨⟨dx, a, ra, hp, R⟩, z, hb⟩, q⟩ := h
  refine ⟨_, (pss_cons (ps_set (i := 1) sc_Field_flat.nd rfl (Or.inl rfl) (pe_lst pa_nil))
    (pss_cons (ps_for PassesOwn.never rfl (kList (K := K) rfl (kFld (K := K) rfl (pv 0) rfl)) (pg_name (i := 2) sc_Field_flat.nd rfl (Or.inl rfl)) (pss_one (ps_expr (kBM (K := K) rfl PySem.F.plainAttrs_list PySem.F.slot_list_extend PySem.F.type_list_extend mt_extend (pv 1) (pa_cons (pv 2) pa_nil)))))
    (pss_one (ps_ret (pv 1))))), ?_⟩
  tm_at "go"
  refine ⟨Nat.zero_le _, fun D hD => ?_⟩
  tm_at "go"
  have s0 : Same H (upd H D (.lst [])) := Same.new hD
  refine gFldE (s0 _ _ hp) (cls_Field S) (na_Field_lines S) rfl ?_
  refine gL1 (SqL.of (s0 _ _ R.top)) ?_
  have Dn : ∀ i, i < h → D ≠ ra i := fun i hi e => by
    rw [e, R.row i hi] at hD
    cases hD
  refine forIt (wTab (m := h) (f := fun y => .ref (ra y))) (fun i σ H' => Same H H' ∧ H' D = some (.lst (irow (i * n) fun k => g (k / n) (k % n))) ∧ ∃ v, σ = [some (.ref p), some (.ref D), v]) ⟨s0, by rw [Nat.zero_mul, upd_same]; rfl, none, rfl⟩ (fun i σ H' _ z => SqL.of (z.1 _ _ R.top)) ?_ ?_
  · rintro i x σ H1 H2 hi ⟨s1, e1, v, rfl⟩ ⟨rfl, rfl⟩
    tm_at "go"
    refine ⟨.inl ⟨rfl, _, SqL.of e1⟩, ?_⟩
    tm_at "go"
    refine ⟨D, ra i, _, _, rfl, rfl, e1, s1 _ _ (R.row i hi), ?_, ?_⟩
    · rw [tab_len, tab_len]
      have h1 := row_le (n := n) hi
      exact line_le (by have := z.hw; omega)
    · refine ⟨s1.mut hD, ?_, _, rfl⟩
      rw [upd_same, tab_app, ← Nat.succ_mul]
      refine congrArg (fun l => some (HO.lst l)) (tab_congr fun k hk => ?_)
      by_cases hk2 : k < i * n
      · rw [if_pos hk2]
      · obtain ⟨e3, e4, _⟩ := div_row hk2 hk
        show (if k < i * n then V.int (g (k / n) (k % n)) else V.int (g i (k - i * n))) = V.int (g (k / n) (k % n))
        rw [if_neg hk2, e3, e4]
  · rintro σ H1 ⟨s1, e1, v, rfl⟩
    tm_at "go"
    exact q D H1 hD s1 e1
theorem ok_Field_places (S : TX K mg) : OkF P w K mg base 2 (He.ma K (He.ga K "Field") "places") (p_Field_places K) := by
  refine okF (F_Field_places S) sc_Field_places (by tm_at "len") (fun _ _ _ _ _ _ us hl => match us, hl with | [_], _ => rfl) (fun cdv A outer s H vs Q E hr h => ?_)
  obtain ⟨p, h, n, g, rfl, F, q⟩ := h
  refine ⟨_, (pss_cons (ps_set (i := 1) sc_Field_places.nd rfl (Or.inl rfl) (pe_lst pa_nil))
    (pss_cons (ps_for PassesOwn.never rfl (pi_range1 rfl (fr_range S) (pa_cons (pe_mt0 (pv 0) (cls_Field S) (me_Field_height S) (ok_Field_height S) (hr.mono (by decide))) pa_nil)) (pg_name (i := 2) sc_Field_places.nd rfl (Or.inr rfl)) (pss_one (ps_expr (kBM (K := K) rfl PySem.F.plainAttrs_list PySem.F.slot_list_extend PySem.F.type_list_extend mt_extend (pv 1) (pa_cons (pe_lc (own := [("x", 3)]) (g := gName 3) (tt := tYes) rfl sc_Field_places.nd (pi_range1 rfl (fr_range S) (pa_cons (pe_mt0 (pv 0) (cls_Field S) (me_Field_width S) (ok_Field_width S) (hr.mono (by decide))) pa_nil)) (blkOk_by (own := [("x", 3)]) (N := ["self", "found", "y", "x"]) (sc := defScope s_Field_places) (by decide +kernel)) (fun _ _ _ _ _ => (pg_name (i := 3) sc_Field_places.nd rfl (Or.inl rfl))) (fun _ _ _ _ _ => pts_nil) (fun _ _ _ _ _ => (pe_tup (pa_cons (pv 2) (pa_cons (pv 3) pa_nil))))) pa_nil)))))
    (pss_one (ps_ret (pv 1))))), ?_⟩
  have F0 := F
  obtain ⟨⟨dx, a, ra, hp, R⟩, z, hb⟩ := F0
  tm_at "go"
  refine ⟨Nat.zero_le _, fun D hD => ?_⟩
  tm_at "go"
  have s0 : Same H (upd H D (.lst [])) := Same.new hD
  refine gMeE (s0 _ _ hp) rfl ?_
  tm_at "go"
  refine ⟨p, h, n, g, rfl, F.same s0, ?_⟩
  refine gR1 (by have := z.h2; omega) ?_
  rw [Int.toNat_natCast]
  have Dp : D ≠ p := fun e => by rw [e, hp] at hD; cases hD
  refine forIt (wRange (m := h)) (fun i σ H' => Same H H' ∧ (∃ ta : Nat → Addr, H' D = some (.lst (tab (i * n) fun k => .ref (ta k))) ∧ (∀ k, k < i * n → ta k ≠ D ∧ H' (ta k) = some (.tup [.int ((k / n : Nat) : Int), .int ((k % n : Nat) : Int)]))) ∧ ∃ v, σ = [some (.ref p), some (.ref D), v, none])
    ⟨s0, ⟨fun _ => 0, by rw [Nat.zero_mul, upd_same]; rfl, fun k hk => absurd hk (by omega)⟩, none, rfl⟩ (fun _ _ _ _ _ => trivial) ?_ ?_
  · rintro i x σ H1 H2 hi ⟨s1, ⟨ta, e1, e2⟩, v, rfl⟩ ⟨rfl, rfl⟩
    tm_at "go"
    refine ⟨.inl ⟨rfl, _, SqL.of e1⟩, ?_⟩
    tm_at "go"
    refine gMeE (s1 _ _ hp) rfl ?_
    tm_at "go"
    refine ⟨p, h, n, g, rfl, F.same s1, ?_⟩
    refine gR1 (by have := z.w2; omega) ?_
    rw [Int.toNat_natCast]
    intro D2 hD2
    refine lcIt (wRange (m := n)) (fun j H' => ∃ tb, NewL H2 H' D2 j tb fun x => .tup [.int (i : Int), .int (x : Int)]) ⟨ta, NewL.nil hD2⟩ (fun _ _ _ _ => trivial) ?_ ?_
    · rintro j x H3 H4 hj ⟨tb, N⟩ ⟨rfl, rfl⟩
      tm_at "go"
      refine ⟨rfl, ?_⟩
      tm_at "go"
      refine ⟨by show 2 ≤ sizeLine; decide, fun t ht => ?_⟩
      refine ⟨_, get_new ht N.top, by rw [tab_len]; exact line_lt (by have := z.w2; omega), _, N.push ht ?_ (Same.new ht)⟩
      rw [upd_same]
    · rintro H3 ⟨tb, N⟩
      tm_at "go"
      have D2D : D2 ≠ D := fun e => by rw [e, e1] at hD2; cases hD2
      refine ⟨D, D2, _, _, rfl, rfl, N.same _ _ e1, N.top, ?_, ?_⟩
      · rw [tab_len, tab_len]
        have h1 := row_le (n := n) hi
        exact line_le (by have := z.hw; omega)
      · refine ⟨(s1.trans N.same).mut hD, ⟨fun k => if k < i * n then ta k else tb (k - i * n), ?_, fun k hk => ?_⟩, _, rfl⟩
        · rw [upd_same, tab_app, ← Nat.succ_mul]
          refine congrArg (fun l => some (HO.lst l)) (tab_congr fun k hk => ?_)
          by_cases hk2 : k < i * n
          · simp only [if_pos hk2]
          · simp only [if_neg hk2]
        · by_cases hk2 : k < i * n
          · simp only [if_pos hk2]
            rw [upd_ne (e2 k hk2).1]
            exact ⟨(e2 k hk2).1, N.same _ _ (e2 k hk2).2⟩
          · simp only [if_neg hk2]
            obtain ⟨e4, e5, kn⟩ := div_row hk2 hk
            have e3 : tb (k - i * n) ≠ D := fun e => by
              have := N.fr _ kn
              rw [e, e1] at this
              cases this
            rw [upd_ne e3, e4, e5]
            exact ⟨e3, N.it _ kn⟩
  · rintro σ H1 ⟨s1, ⟨ta, e1, e2⟩, v, rfl⟩
    tm_at "go"
    exact q D H1 ta s1 e1 fun k hk => (e2 k hk).2
theorem ok_Field_is_place (S : TX K mg) : OkF P w K mg base 2 (He.ma K (He.ga K "Field") "is_place") (p_Field_is_place K) := by
  refine okF (F_Field_is_place S) sc_Field_is_place (by tm_at "len") (fun _ _ _ _ _ _ us hl => match us, hl with | [_, _], _ => rfl) (fun cdv A outer s H vs Q E hr h => ?_)
  obtain ⟨p, t, h, n, g, y, x, rfl, F, ht, hy, hx, q⟩ := h
  refine ⟨_, (pss_cons (ps_if (PW.pt (pw_or (pt_not (pt_val (pe_callB (kIsi (K := K) rfl) rfl (fr_isinstance S) bt_isinstance (pa_cons (pv 1) (pa_cons (pe_bltn (v := .ty "tuple") rfl (fr_tuple S) bt_tuple rfl) pa_nil))))) (pw_or1 (pt_cmpR op_ne (pe_callB (kLen (K := K) rfl) rfl (fr_len S) bt_len (pa_cons (pv 1) pa_nil)) pe_int (nomark _))))) (pss_one (ps_ret pe_bl)) pss_nil)
    (pss_one (ps_ret (pe_and (pe_f (ok_is_whole S) (hr.mono (by decide)) rfl (glo_is_whole S) (pa_cons (pe_ix (kIxT (K := K) rfl) (pv 1) pe_int (fun _ _ => rfl)) (pa_cons pe_int (pa_cons (pe_op op_sub (pe_mt0 (pv 0) (cls_Field S) (me_Field_height S) (ok_Field_height S) (hr.mono (by decide))) pe_int) pa_nil)))) (pe_one (pe_f (ok_is_whole S) (hr.mono (by decide)) rfl (glo_is_whole S) (pa_cons (pe_ix (kIxT (K := K) rfl) (pv 1) pe_int (fun _ _ => rfl)) (pa_cons pe_int (pa_cons (pe_op op_sub (pe_mt0 (pv 0) (cls_Field S) (me_Field_width S) (ok_Field_width S) (hr.mono (by decide))) pe_int) pa_nil))))))))), ?_⟩
  have F0 := F
  obtain ⟨⟨dx, a, ra, hp, R⟩, z, hb⟩ := F0
  tm_at "go"
  refine ⟨_, 2, rfl, .inr ⟨_, SqT.of ht, rfl⟩, ?_⟩
  tm_at "go"
  refine gIxT (SqT.of ht) (i := 0) rfl ?_
  tm_at "go"
  refine gMeE hp rfl ?_
  tm_at "go"
  refine ⟨p, h, n, g, rfl, F, ?_⟩
  tm_at "go"
  refine ⟨y, 0, _, rfl, by omega, by omega, ?_⟩
  tm_at "go"
  refine gIxT (SqT.of ht) (i := 1) rfl ?_
  tm_at "go"
  refine gMeE hp rfl ?_
  tm_at "go"
  refine ⟨p, h, n, g, rfl, F, ?_⟩
  tm_at "go"
  exact ⟨x, 0, _, rfl, by omega, by omega, q⟩
theorem ok_Field_at (S : TX K mg) : OkF P w K mg base 3 (He.ma K (He.ga K "Field") "at") (p_Field_at K) := by
  refine okF (F_Field_at S) sc_Field_at (by tm_at "len") (fun _ _ _ _ _ _ us hl => match us, hl with | [_, _], _ => rfl) (fun cdv A outer s H vs Q E hr h => ?_)
  obtain ⟨p, t, h, n, g, y, x, rfl, F, ht, hy, hx, q⟩ := h
  refine ⟨_, (pss_cons (ps_if (pt_not (pt_val (pe_mt (pv 0) (cls_Field S) (me_Field_is_place S) (ok_Field_is_place S) (hr.mono (by decide)) (pa_cons (pv 1) pa_nil)))) (pss_one ps_never) pss_nil)
    (pss_one (ps_ret (pe_ix (kIxL (K := K) rfl) (pe_ix (kIxL (K := K) rfl) (kFld (K := K) rfl (pv 0) rfl) (pe_ix (kIxT (K := K) rfl) (pv 1) pe_int (fun _ _ => rfl)) (fun _ _ => rfl)) (pe_ix (kIxT (K := K) rfl) (pv 1) pe_int (fun _ _ => rfl)) (fun _ _ => rfl))))), ?_⟩
  have F0 := F
  obtain ⟨⟨dx, a, ra, hp, R⟩, z, hb⟩ := F0
  tm_at "go"
  refine gMeE hp rfl ?_
  tm_at "go"
  refine ⟨p, t, h, n, g, y, x, rfl, F, ht, hy, hx, ?_⟩
  tm_at "go"
  refine gFldE hp (cls_Field S) (na_Field_lines S) rfl ?_
  tm_at "go"
  refine gIxT (SqT.of ht) (i := 0) rfl ?_
  refine gIxL (SqL.of R.top) (at_tab hy) ?_
  tm_at "go"
  refine gIxT (SqT.of ht) (i := 1) rfl ?_
  exact gIxL (SqL.of (R.row y hy)) (at_tab hx) q
theorem dp_pair {H : Hp} {t : Addr} {i j : Int} (h : H t = some (.tup [.int i, .int j])) : Dp K H (.ref t) (.tuple [.int i, .int j]) := .tup (SqT.of h) (.cons (.int i) (.cons (.int j) .nil))
theorem sh_pair {i j : Int} : SeqAt.shaped (.tuple [.int i, .int j]) = true := rfl
theorem ok_need_field (S : TX K mg) : OkF P w K mg base 4 (He.ga K "need_field") (p_need_field K) := by
  refine okF (F_need_field S) sc_need_field (by tm_at "len") (fun _ _ _ _ _ _ us hl => match us, hl with | [_, _, _], _ => rfl) (fun cdv A outer s H vs Q E hr h => ?_)
  obtain ⟨p, t, h, n, g, m, rfl, F, ht, hm, q⟩ := h
  refine ⟨_, (pss_cons (ps_if (pt_not (pt_val (pe_callB (C8.call_isC (insC_Field S)) rfl (fr_isinstance S) bt_isinstance (pa_cons (pv 0) (pa_cons (pe_glob (v := .ref (He.ga K "Field")) rfl (glo_Field S) rfl) pa_nil))))) (pss_one ps_never) pss_nil)
    (pss_cons (ps_if (pt_cmpR (kNeD (K := K) rfl hr.units) (pe_tup (pa_cons (pe_mt0 (pv 0) (cls_Field S) (me_Field_height S) (ok_Field_height S) (hr.mono (by decide))) (pa_cons (pe_mt0 (pv 0) (cls_Field S) (me_Field_width S) (ok_Field_width S) (hr.mono (by decide))) pa_nil))) (pv 1) (nomark _)) (pss_one ps_never) pss_nil)
    (pss_one (ps_for PassesOwn.never rfl (kList (K := K) rfl (pe_mt0 (pv 0) (cls_Field S) (me_Field_places S) (ok_Field_places S) (hr.mono (by decide)))) (pg_name (i := 3) sc_need_field.nd rfl (Or.inl rfl)) (pss_one (ps_if (pt_not (pt_val (pe_f (ok_is_whole S) (hr.mono (by decide)) rfl (glo_is_whole S) (pa_cons (pe_mt (pv 0) (cls_Field S) (me_Field_at S) (ok_Field_at S) (hr.mono (by decide)) (pa_cons (pv 3) pa_nil)) (pa_cons (pe_un un_neg (pv 2)) (pa_cons (pv 2) pa_nil)))))) (pss_one ps_never) pss_nil)))))), ?_⟩
  have F0 := F
  obtain ⟨⟨dx, a, ra, hp, R⟩, z, hb⟩ := F0
  tm_at "go"
  refine ⟨p, dx, _, rfl, hp, ?_⟩
  tm_at "go"
  refine gMeE hp rfl ?_
  tm_at "go"
  refine ⟨p, h, n, g, rfl, F, ?_⟩
  tm_at "go"
  refine gMeE hp rfl ?_
  tm_at "go"
  refine ⟨p, h, n, g, rfl, F, ?_⟩
  tm_at "go"
  refine ⟨by show 2 ≤ sizeLine; decide, fun t2 ht2 => ?_⟩
  have s1 : Same H (upd H t2 (.tup [.int (h : Int), .int (n : Int)])) := Same.new ht2
  tm_at "go"
  refine ⟨_, _, dp_pair upd_same, dp_pair (s1 _ _ ht), sh_pair, sh_pair, ?_⟩
  rw [SeqAt.eqv_refl _ (SeqAt.canLay_of_shaped sh_pair)]
  tm_at "go"
  refine gMeE (s1 _ _ hp) rfl ?_
  tm_at "go"
  refine ⟨p, h, n, g, rfl, F.same s1, fun D H1 ta s2 hD hta => ?_⟩
  refine gL1 (SqL.of hD) ?_
  refine forIt (wTab (m := h * n) (f := fun k => .ref (ta k))) (fun i σ H' => H' = H1 ∧ ∃ v, σ = [some (.ref p), some (.ref t), some (.int m), v]) ⟨rfl, none, rfl⟩ (fun i σ H' _ z => by rw [z.1]; exact SqL.of hD) ?_ ?_
  · rintro i x σ H3 H4 hi ⟨rfl, v, rfl⟩ ⟨rfl, rfl⟩
    tm_at "go"
    refine gMeE (s2 _ _ (s1 _ _ hp)) rfl ?_
    have n0 : 0 < n := z.w1
    have y1 : i / n < h := Nat.div_lt_of_lt_mul (by rw [Nat.mul_comm]; exact hi)
    have x1 : i % n < n := Nat.mod_lt i n0
    tm_at "go"
    refine ⟨p, ta i, h, n, g, i / n, i % n, rfl, (F.same s1).same s2, hta i hi, y1, x1, ?_⟩
    tm_at "go"
    refine ⟨_, _, _, rfl, (hm _ _ y1 x1).1, (hm _ _ y1 x1).2, ?_⟩
    tm_at "go"
    exact ⟨rfl, _, rfl⟩
  · rintro σ H3 ⟨rfl, v, rfl⟩
    exact q _ (s1.trans s2)
end
end Kp
/-! plain: ways, corners, the order of places -/
namespace Kp
inductive L where
  | r | p | b
  deriving DecidableEq
def L.isR : L → Bool
  | .r => true
  | .p => false
  | .b => true
def L.isP : L → Bool
  | .r => false
  | .p => true
  | .b => true
def L.code : L → Nat
  | .r => 114
  | .p => 112
  | .b => 98
def hf (n : Nat) : Nat := (n + 1) / 2
def L.next (l : L) (c : Nat × Nat) : Nat × Nat := (if l.isP = true then hf c.1 else c.1, if l.isR = true then hf c.2 else c.2)
/-- the corner behind the first k letters -/
def cnr (c : Nat × Nat) : List L → Nat → Nat × Nat
  | _, 0 => c
  | [], _ + 1 => c
  | l :: ls, k + 1 => cnr (l.next c) ls k
/-- each step can be -/
def WOk (c : Nat × Nat) : List L → Prop
  | [] => True
  | l :: ls => (l.isR = true → 2 ≤ c.2) ∧ (l.isP = true → 2 ≤ c.1) ∧ WOk (l.next c) ls
theorem cnr_zero {c : Nat × Nat} {ws : List L} : cnr c ws 0 = c := by cases ws <;> rfl
theorem cnr_succ {l : L} : ∀ {ws : List L} {k : Nat} {c : Nat × Nat}, ws[k]? = some l → cnr c ws (k + 1) = l.next (cnr c ws k)
  | [], k, c, h => by simp at h
  | m :: ls, 0, c, h => by
    simp at h
    subst h
    show cnr (m.next c) ls 0 = m.next (cnr c (m :: ls) 0)
    rw [cnr_zero, cnr_zero]
  | m :: ls, k + 1, c, h => by
    have e := cnr_succ (ws := ls) (k := k) (c := m.next c) (by simpa using h)
    exact e
theorem WOk.at {l : L} : ∀ {ws : List L} {k : Nat} {c : Nat × Nat}, WOk c ws → ws[k]? = some l → (l.isR = true → 2 ≤ (cnr c ws k).2) ∧ (l.isP = true → 2 ≤ (cnr c ws k).1)
  | [], k, c, _, h => by simp at h
  | m :: ls, 0, c, w, h => by
    simp at h
    subst h
    rw [cnr_zero]
    exact ⟨w.1, w.2.1⟩
  | m :: ls, k + 1, c, w, h => WOk.at (ws := ls) (k := k) w.2.2 (by simpa using h)
theorem WOk.app : ∀ {ws vs : List L} {c : Nat × Nat}, WOk c ws → WOk (cnr c ws ws.length) vs → WOk c (ws ++ vs)
  | [], vs, c, _, h => by
    rw [show cnr c [] ([] : List L).length = c from rfl] at h
    exact h
  | l :: ls, vs, c, w, h => ⟨w.1, w.2.1, WOk.app (ws := ls) w.2.2 h⟩
theorem cnr_app : ∀ {ws vs : List L} {c : Nat × Nat} {k : Nat}, k ≤ ws.length → cnr c (ws ++ vs) k = cnr c ws k
  | ws, vs, c, 0, _ => by rw [cnr_zero, cnr_zero]
  | [], vs, c, k + 1, h => by simp at h
  | l :: ls, vs, c, k + 1, h => cnr_app (ws := ls) (by simpa using h)
theorem L.next_le (l : L) (c : Nat × Nat) : (l.next c).1 ≤ c.1 ∧ (l.next c).2 ≤ c.2 := by
  unfold L.next hf
  constructor <;> dsimp only <;> split <;> omega
theorem L.next_pos (l : L) {c : Nat × Nat} (h : 1 ≤ c.1 ∧ 1 ≤ c.2) : 1 ≤ (l.next c).1 ∧ 1 ≤ (l.next c).2 := by
  unfold L.next hf
  constructor <;> dsimp only <;> split <;> omega
theorem cnr_le : ∀ (ws : List L) (k : Nat) (c : Nat × Nat), (cnr c ws k).1 ≤ c.1 ∧ (cnr c ws k).2 ≤ c.2
  | ws, 0, c => by rw [cnr_zero]; exact ⟨Nat.le_refl _, Nat.le_refl _⟩
  | [], k + 1, c => ⟨Nat.le_refl _, Nat.le_refl _⟩
  | l :: ls, k + 1, c => by
    have h := cnr_le ls k (l.next c)
    have n := l.next_le c
    exact ⟨Nat.le_trans h.1 n.1, Nat.le_trans h.2 n.2⟩
theorem cnr_pos : ∀ (ws : List L) (k : Nat) (c : Nat × Nat), 1 ≤ c.1 ∧ 1 ≤ c.2 → 1 ≤ (cnr c ws k).1 ∧ 1 ≤ (cnr c ws k).2
  | ws, 0, c, h => by rw [cnr_zero]; exact h
  | [], k + 1, c, h => h
  | l :: ls, k + 1, c, h => cnr_pos ls k _ (l.next_pos h)
theorem WOk.len : ∀ {ws : List L} {c : Nat × Nat}, WOk c ws → 1 ≤ c.1 ∧ 1 ≤ c.2 → ws.length + 2 ≤ c.1 + c.2
  | [], c, _, p => by simp only [List.length_nil]; omega
  | l :: ls, c, w, p => by
    have h := WOk.len w.2.2 (l.next_pos p)
    have n := l.next_le c
    have a := w.1
    have b := w.2.1
    rw [List.length_cons]
    have : (l.next c).1 + (l.next c).2 < c.1 + c.2 := by
      unfold L.next hf
      cases l with
      | r => have := a rfl; simp [L.isR, L.isP]; omega
      | p => have := b rfl; simp [L.isR, L.isP]; omega
      | b => have := b rfl; have := a rfl; simp [L.isR, L.isP]; omega
    omega
/-! ### parts, order -/
structure Part where
  s : Nat
  z : Nat
  t : Nat
  l : Nat
  h : Nat
  w : Nat
/-- the parts of a step: z 1 row, 2 pillar, 3 both -/
def stepP (c : Nat × Nat) (ws : List L) (k : Nat) : List Part :=
  match ws[k]? with
  | none => []
  | some .r => [⟨k, 1, 0, (cnr c ws (k + 1)).2, (cnr c ws k).1, (cnr c ws k).2 - (cnr c ws (k + 1)).2⟩]
  | some .p => [⟨k, 2, (cnr c ws (k + 1)).1, 0, (cnr c ws k).1 - (cnr c ws (k + 1)).1, (cnr c ws k).2⟩]
  | some .b => [⟨k, 1, 0, (cnr c ws (k + 1)).2, (cnr c ws (k + 1)).1, (cnr c ws k).2 - (cnr c ws (k + 1)).2⟩,
      ⟨k, 2, (cnr c ws (k + 1)).1, 0, (cnr c ws k).1 - (cnr c ws (k + 1)).1, (cnr c ws (k + 1)).2⟩,
      ⟨k, 3, (cnr c ws (k + 1)).1, (cnr c ws (k + 1)).2, (cnr c ws k).1 - (cnr c ws (k + 1)).1, (cnr c ws k).2 - (cnr c ws (k + 1)).2⟩]
theorem stepP_r {c : Nat × Nat} {ws : List L} {k : Nat} (h : ws[k]? = some .r) : stepP c ws k = [⟨k, 1, 0, (cnr c ws (k + 1)).2, (cnr c ws k).1, (cnr c ws k).2 - (cnr c ws (k + 1)).2⟩] := by unfold stepP; rw [h]
theorem stepP_p {c : Nat × Nat} {ws : List L} {k : Nat} (h : ws[k]? = some .p) : stepP c ws k = [⟨k, 2, (cnr c ws (k + 1)).1, 0, (cnr c ws k).1 - (cnr c ws (k + 1)).1, (cnr c ws k).2⟩] := by unfold stepP; rw [h]
theorem stepP_b {c : Nat × Nat} {ws : List L} {k : Nat} (h : ws[k]? = some .b) : stepP c ws k = [⟨k, 1, 0, (cnr c ws (k + 1)).2, (cnr c ws (k + 1)).1, (cnr c ws k).2 - (cnr c ws (k + 1)).2⟩,
      ⟨k, 2, (cnr c ws (k + 1)).1, 0, (cnr c ws k).1 - (cnr c ws (k + 1)).1, (cnr c ws (k + 1)).2⟩,
      ⟨k, 3, (cnr c ws (k + 1)).1, (cnr c ws (k + 1)).2, (cnr c ws k).1 - (cnr c ws (k + 1)).1, (cnr c ws k).2 - (cnr c ws (k + 1)).2⟩] := by unfold stepP; rw [h]
/-- the coarse part and those of the last i steps -/
def partsFrom (c : Nat × Nat) (ws : List L) : Nat → List Part
  | 0 => [⟨ws.length, 0, 0, 0, (cnr c ws ws.length).1, (cnr c ws ws.length).2⟩]
  | i + 1 => partsFrom c ws i ++ stepP c ws (ws.length - 1 - i)
def partsM (c : Nat × Nat) (ws : List L) : List Part := partsFrom c ws ws.length
def rowPl (t l w : Nat) : List (Nat × Nat) := (List.range w).map fun x => (t, l + x)
def Part.rows (q : Part) (n : Nat) : List (Nat × Nat) := (List.range n).flatMap fun y => rowPl (q.t + y) q.l q.w
def Part.pl (q : Part) : List (Nat × Nat) := q.rows q.h
def orderM (c : Nat × Nat) (ws : List L) : List (Nat × Nat) := (partsM c ws).flatMap Part.pl
theorem mem_rowPl {t l w : Nat} {a : Nat × Nat} : a ∈ rowPl t l w ↔ a.1 = t ∧ l ≤ a.2 ∧ a.2 < l + w := by
  obtain ⟨y, x⟩ := a
  unfold rowPl
  rw [List.mem_map]
  constructor
  · rintro ⟨k, hk, e⟩
    rw [List.mem_range] at hk
    cases e
    exact ⟨rfl, by omega, by omega⟩
  · rintro ⟨h1, h2, h3⟩
    exact ⟨x - l, List.mem_range.mpr (by dsimp only at h2 h3; omega), Prod.ext h1.symm (by dsimp only at h2 h3 ⊢; omega)⟩
theorem mem_pl {q : Part} {a : Nat × Nat} : a ∈ q.pl ↔ (q.t ≤ a.1 ∧ a.1 < q.t + q.h) ∧ q.l ≤ a.2 ∧ a.2 < q.l + q.w := by
  unfold Part.pl Part.rows
  rw [List.mem_flatMap]
  constructor
  · rintro ⟨y, hy, h⟩
    rw [List.mem_range] at hy
    obtain ⟨h1, h2, h3⟩ := mem_rowPl.mp h
    exact ⟨⟨by omega, by omega⟩, h2, h3⟩
  · rintro ⟨⟨h1, h2⟩, h3, h4⟩
    exact ⟨a.1 - q.t, List.mem_range.mpr (by omega), mem_rowPl.mpr ⟨by omega, h3, h4⟩⟩
theorem nodup_rowPl {t l w : Nat} : (rowPl t l w).Nodup := by
  unfold rowPl
  refine List.Pairwise.map _ ?_ (List.nodup_range (n := w))
  intro a b h e
  exact h (by injection e with _ e2; omega)
theorem nodup_flat {α β : Type} {f : α → List β} : ∀ {l : List α}, l.Nodup → (∀ a ∈ l, (f a).Nodup) → (∀ a ∈ l, ∀ b ∈ l, a ≠ b → ∀ x ∈ f a, x ∉ f b) → (l.flatMap f).Nodup
  | [], _, _, _ => List.nodup_nil
  | a :: l, h, h1, h2 => by
    rw [List.flatMap_cons, List.nodup_append]
    obtain ⟨n1, n2⟩ := List.nodup_cons.mp h
    refine ⟨h1 a List.mem_cons_self, nodup_flat n2 (fun b hb => h1 b (List.mem_cons_of_mem _ hb)) fun b hb d hd => h2 b (List.mem_cons_of_mem _ hb) d (List.mem_cons_of_mem _ hd), fun x hx y hy e => ?_⟩
    obtain ⟨b, hb, hy⟩ := List.mem_flatMap.mp hy
    exact h2 a List.mem_cons_self b (List.mem_cons_of_mem _ hb) (fun q => n1 (by rw [q]; exact hb)) x hx (by rw [e]; exact hy)
theorem nodup_pl {q : Part} : q.pl.Nodup := by
  unfold Part.pl Part.rows
  refine nodup_flat (List.nodup_range (n := q.h)) (fun _ _ => nodup_rowPl) fun a _ b _ ne x hx hy => ?_
  have h1 := (mem_rowPl.mp hx).1
  have h2 := (mem_rowPl.mp hy).1
  omega
/-- the places of the corner ahead of step k, in the order -/
theorem ord_from {c : Nat × Nat} {ws : List L} : ∀ i, i ≤ ws.length → ((partsFrom c ws i).flatMap Part.pl).Nodup ∧
    ∀ a : Nat × Nat, a ∈ (partsFrom c ws i).flatMap Part.pl ↔ a.1 < (cnr c ws (ws.length - i)).1 ∧ a.2 < (cnr c ws (ws.length - i)).2
  | 0, _ => by
    rw [show partsFrom c ws 0 = [⟨ws.length, 0, 0, 0, (cnr c ws ws.length).1, (cnr c ws ws.length).2⟩] from rfl, List.flatMap_cons, List.flatMap_nil, List.append_nil]
    refine ⟨nodup_pl, fun a => ?_⟩
    rw [mem_pl, Nat.sub_zero]
    dsimp only
    omega
  | i + 1, hi => by
    obtain ⟨n1, m1⟩ := ord_from (c := c) (ws := ws) i (by omega)
    rw [show partsFrom c ws (i + 1) = partsFrom c ws i ++ stepP c ws (ws.length - 1 - i) from rfl, List.flatMap_append]
    have hk : ws.length - 1 - i < ws.length := by omega
    have e1 : ws.length - (i + 1) = ws.length - 1 - i := by omega
    have e2 : ws.length - i = ws.length - 1 - i + 1 := by omega
    rw [e1]
    rw [e2] at m1
    generalize ws.length - 1 - i = k at *
    have hl : ws[k]? = some ws[k] := by rw [List.getElem?_eq_getElem hk]
    have ec := cnr_succ (c := c) hl
    have le := (ws[k]).next_le (cnr c ws k)
    rw [← ec] at le
    have mem2 : ∀ a : Nat × Nat, a ∈ (stepP c ws k).flatMap Part.pl ↔ (a.1 < (cnr c ws k).1 ∧ a.2 < (cnr c ws k).2) ∧ ¬ (a.1 < (cnr c ws (k + 1)).1 ∧ a.2 < (cnr c ws (k + 1)).2) := by
      intro a
      unfold stepP
      rw [hl]
      cases hw : ws[k] with
      | r =>
        have e3 : (cnr c ws (k + 1)).1 = (cnr c ws k).1 := by rw [ec, hw]; rfl
        simp only [List.flatMap_cons, List.flatMap_nil, List.append_nil, mem_pl]
        omega
      | p =>
        have e3 : (cnr c ws (k + 1)).2 = (cnr c ws k).2 := by rw [ec, hw]; rfl
        simp only [List.flatMap_cons, List.flatMap_nil, List.append_nil, mem_pl]
        omega
      | b =>
        simp only [List.flatMap_cons, List.flatMap_nil, List.append_nil, List.mem_append, mem_pl]
        omega
    refine ⟨List.nodup_append.mpr ⟨n1, ?_, fun x hx y hy e => ?_⟩, fun a => ?_⟩
    · unfold stepP
      rw [hl]
      cases hw : ws[k] with
      | r =>
        simp only [List.flatMap_cons, List.flatMap_nil, List.append_nil]
        exact nodup_pl
      | p =>
        simp only [List.flatMap_cons, List.flatMap_nil, List.append_nil]
        exact nodup_pl
      | b =>
        simp only [List.flatMap_cons, List.flatMap_nil, List.append_nil]
        refine List.nodup_append.mpr ⟨nodup_pl, List.nodup_append.mpr ⟨nodup_pl, nodup_pl, fun x hx y hy e => ?_⟩, fun x hx y hy e => ?_⟩
        · have h1 := mem_pl.mp hx
          have h2 := mem_pl.mp hy
          rw [← e] at h2
          dsimp only at h1 h2
          omega
        · have h1 := mem_pl.mp hx
          rw [← e] at hy
          rcases List.mem_append.mp hy with hy | hy
          · have h2 := mem_pl.mp hy
            dsimp only at h1 h2
            omega
          · have h2 := mem_pl.mp hy
            dsimp only at h1 h2
            omega
    · have h1 := (m1 x).mp hx
      rw [← e] at hy
      exact ((mem2 x).mp hy).2 h1
    · rw [List.mem_append, m1, mem2]
      omega
theorem order_nodup {c : Nat × Nat} {ws : List L} : (orderM c ws).Nodup := (ord_from ws.length (Nat.le_refl _)).1
theorem order_mem {c : Nat × Nat} {ws : List L} {a : Nat × Nat} : a ∈ orderM c ws ↔ a.1 < c.1 ∧ a.2 < c.2 := by
  have h := (ord_from (c := c) (ws := ws) ws.length (Nat.le_refl _)).2 a
  rw [Nat.sub_self, cnr_zero] at h
  exact h
theorem len_rows {q : Part} {n : Nat} : (q.rows n).length = n * q.w := by
  unfold Part.rows
  induction n with
  | zero => simp
  | succ n ih =>
    rw [List.range_succ, List.flatMap_append, List.length_append, ih, Nat.succ_mul]
    simp [rowPl]
theorem len_pl {q : Part} : q.pl.length = q.h * q.w := len_rows
theorem len_from {c : Nat × Nat} {ws : List L} : ∀ i, i ≤ ws.length → ((partsFrom c ws i).flatMap Part.pl).length = (cnr c ws (ws.length - i)).1 * (cnr c ws (ws.length - i)).2
  | 0, _ => by
    rw [show partsFrom c ws 0 = [⟨ws.length, 0, 0, 0, (cnr c ws ws.length).1, (cnr c ws ws.length).2⟩] from rfl, List.flatMap_cons, List.flatMap_nil, List.append_nil, len_pl]
    rfl
  | i + 1, hi => by
    have n1 := len_from (c := c) (ws := ws) i (by omega)
    rw [show partsFrom c ws (i + 1) = partsFrom c ws i ++ stepP c ws (ws.length - 1 - i) from rfl, List.flatMap_append, List.length_append, n1]
    have hk : ws.length - 1 - i < ws.length := by omega
    rw [show ws.length - (i + 1) = ws.length - 1 - i by omega, show ws.length - i = ws.length - 1 - i + 1 by omega]
    generalize ws.length - 1 - i = k at *
    have hl : ws[k]? = some ws[k] := by rw [List.getElem?_eq_getElem hk]
    have ec := cnr_succ (c := c) hl
    have le := (ws[k]).next_le (cnr c ws k)
    rw [← ec] at le
    unfold stepP
    rw [hl]
    generalize hc1 : cnr c ws k = a at *
    generalize hc2 : cnr c ws (k + 1) = b at *
    obtain ⟨a1, a2⟩ := a
    obtain ⟨b1, b2⟩ := b
    obtain ⟨l1, l2⟩ := le
    dsimp only at l1 l2 ⊢
    cases hw : ws[k] with
    | r =>
      have e3 : b1 = a1 := by rw [hw] at ec; exact congrArg Prod.fst ec
      simp only [List.flatMap_cons, List.flatMap_nil, List.append_nil, len_pl]
      rw [e3, ← Nat.mul_add]
      congr 1
      omega
    | p =>
      have e3 : b2 = a2 := by rw [hw] at ec; exact congrArg Prod.snd ec
      simp only [List.flatMap_cons, List.flatMap_nil, List.append_nil, len_pl]
      rw [e3, ← Nat.add_mul]
      congr 1
      omega
    | b =>
      simp only [List.flatMap_cons, List.flatMap_nil, List.append_nil, List.length_append, len_pl]
      obtain ⟨d1, rfl⟩ := Nat.exists_eq_add_of_le l1
      obtain ⟨d2, rfl⟩ := Nat.exists_eq_add_of_le l2
      rw [Nat.add_sub_cancel_left, Nat.add_sub_cancel_left, Nat.add_mul, Nat.mul_add, Nat.mul_add]
      omega
theorem order_len {c : Nat × Nat} {ws : List L} : (orderM c ws).length = c.1 * c.2 := by
  have h := len_from (c := c) (ws := ws) ws.length (Nat.le_refl _)
  rw [Nat.sub_self, cnr_zero] at h
  exact h
theorem stepP_len {c : Nat × Nat} {ws : List L} {k : Nat} : (stepP c ws k).length ≤ 3 := by
  unfold stepP
  split <;> simp
theorem parts_len {c : Nat × Nat} {ws : List L} : ∀ i, (partsFrom c ws i).length ≤ 1 + 3 * i
  | 0 => by simp [partsFrom]
  | i + 1 => by
    have h := parts_len (c := c) (ws := ws) i
    have k := stepP_len (c := c) (ws := ws) (k := ws.length - 1 - i)
    rw [show partsFrom c ws (i + 1) = partsFrom c ws i ++ stepP c ws (ws.length - 1 - i) from rfl, List.length_append]
    omega
theorem take_snoc {α : Type} {l : List α} {i : Nat} {q : α} (h : l[i]? = some q) : l.take (i + 1) = l.take i ++ [q] := by
  rw [List.take_add_one, h]
  rfl
theorem rows_succ {q : Part} {y : Nat} : q.rows (y + 1) = q.rows y ++ rowPl (q.t + y) q.l q.w := by
  unfold Part.rows
  rw [List.range_succ, List.flatMap_append]
  simp
theorem ord_pre {c : Nat × Nat} {ws : List L} {i y : Nat} {q : Part} (h : (partsM c ws)[i]? = some q) (hy : y < q.h) : (((partsM c ws).take i).flatMap Part.pl ++ q.rows y).length + q.w ≤ c.1 * c.2 := by
  rw [← order_len (c := c) (ws := ws)]
  unfold orderM
  have e : partsM c ws = (partsM c ws).take (i + 1) ++ (partsM c ws).drop (i + 1) := (List.take_append_drop _ _).symm
  rw [take_snoc h] at e
  have e2 := congrArg (fun l => (l.flatMap Part.pl).length) e
  simp only [List.flatMap_append, List.length_append, List.flatMap_cons, List.flatMap_nil, List.append_nil, len_pl] at e2
  rw [e2, List.length_append, len_rows]
  have : (y + 1) * q.w ≤ q.h * q.w := Nat.mul_le_mul_right _ hy
  rw [Nat.succ_mul] at this
  omega
theorem take_flat {l : List Part} {i : Nat} {q : Part} (h : l[i]? = some q) : (l.take (i + 1)).flatMap Part.pl = (l.take i).flatMap Part.pl ++ q.rows q.h := by
  rw [take_snoc h, List.flatMap_append]
  simp [Part.pl]
theorem stepP_le {c : Nat × Nat} {ws : List L} {k : Nat} : ∀ q ∈ stepP c ws k, q.h ≤ c.1 ∧ q.w ≤ c.2 := by
  have h1 := cnr_le ws k c
  have h2 := cnr_le ws (k + 1) c
  unfold stepP
  intro q hq
  split at hq
  · cases hq
  · simp only [List.mem_cons, List.not_mem_nil, or_false] at hq
    subst hq
    dsimp only
    omega
  · simp only [List.mem_cons, List.not_mem_nil, or_false] at hq
    subst hq
    dsimp only
    omega
  · simp only [List.mem_cons, List.not_mem_nil, or_false] at hq
    rcases hq with hq | hq | hq <;> subst hq <;> dsimp only <;> omega
theorem parts_le {c : Nat × Nat} {ws : List L} : ∀ i, ∀ q ∈ partsFrom c ws i, q.h ≤ c.1 ∧ q.w ≤ c.2
  | 0, q, hq => by
    simp only [partsFrom, List.mem_cons, List.not_mem_nil, or_false] at hq
    subst hq
    exact cnr_le ws ws.length c
  | i + 1, q, hq => by
    rcases List.mem_append.mp hq with h | h
    · exact parts_le i q h
    · exact stepP_le q h
end Kp
/-! plain: the rules' arithmetic, as the program does it -/
namespace Kp
inductive Rl where
  | sum | half | guess | lean
  deriving DecidableEq
def nr (m : Nat) (g : Nat → Int) (k : Int) : Int := g (max 0 (min k ((m : Int) - 1))).toNat
def hS (n : Nat) (f : Nat → Int) (k : Nat) : Int := if k < n / 2 then (f (2 * k) + f (2 * k + 1)) / 2 else f (n - 1)
def sl (N : Nat) (s : Nat → Int) (k : Nat) : Int := ((if 0 < k then s (k - 1) else s k) - (if k + 1 < N then s (k + 1) else s k) + 2) / 4
def ev (f : Nat → Int) (k : Nat) : Int := f (2 * k)
def gD (n : Nat) (f : Nat → Int) (k : Nat) : Int := f (2 * k + 1) - (f (2 * k) + nr (hf n) (ev f) ((k : Int) + 1)) / 2
def gS (n : Nat) (f : Nat → Int) (k : Nat) : Int := f (2 * k) + (nr (n / 2) (gD n f) ((k : Int) - 1) + nr (n / 2) (gD n f) (k : Int) + 2) / 4
def pS : Rl → Nat → (Nat → Int) → Nat → Int
  | .sum, n, f, k => if k < n / 2 then f (2 * k) + f (2 * k + 1) else 2 * f (n - 1)
  | .half, n, f, k => hS n f k
  | .guess, n, f, k => gS n f k
  | .lean, n, f, k => hS n f k
def pD : Rl → Nat → (Nat → Int) → Nat → Int
  | .sum, _, f, k => f (2 * k) - f (2 * k + 1)
  | .half, _, f, k => f (2 * k) - f (2 * k + 1)
  | .guess, n, f, k => gD n f k
  | .lean, n, f, k => f (2 * k) - f (2 * k + 1) - sl (hf n) (hS n f) k
def hB (n : Nat) (s d : Nat → Int) (i : Nat) : Int := if i / 2 < n / 2 then (if i % 2 = 0 then s (i / 2) + (d (i / 2) + 1) / 2 else s (i / 2) + (d (i / 2) + 1) / 2 - d (i / 2)) else s (n / 2)
def gF (n : Nat) (s d : Nat → Int) (k : Nat) : Int := s k - (nr (n / 2) d ((k : Int) - 1) + nr (n / 2) d (k : Int) + 2) / 4
def bk : Rl → Nat → (Nat → Int) → (Nat → Int) → Nat → Int
  | .sum, n, s, d, i => if i / 2 < n / 2 then (if i % 2 = 0 then (s (i / 2) + d (i / 2)) / 2 else s (i / 2) - (s (i / 2) + d (i / 2)) / 2) else s (n / 2) / 2
  | .half, n, s, d, i => hB n s d i
  | .guess, n, s, d, i => if i % 2 = 0 then gF n s d (i / 2) else d (i / 2) + (gF n s d (i / 2) + nr (hf n) (gF n s d) (((i / 2 : Nat) : Int) + 1)) / 2
  | .lean, n, s, d, i => hB n s (fun k => d k + sl (hf n) s k) i
/-- errors carried back -/
def pJ (n : Nat) (s d : Nat → Int) (i : Nat) : Int := if i / 2 < n / 2 then s (i / 2) + (d (i / 2) + 1) / 2 else s (n / 2)
def cF (n : Nat) (s d : Nat → Int) (k : Nat) : Int := s k + (nr (n / 2) d ((k : Int) - 1) + nr (n / 2) d (k : Int) + 3) / 4
def cM (n : Nat) (s d : Nat → Int) (k : Nat) : Int := d k + (s (max 0 ((k : Int) - 1)).toNat + nr (hf n) s ((k : Int) + 1) + 3) / 4
def cb : Rl → Nat → (Nat → Int) → (Nat → Int) → Nat → Int
  | .sum, n, s, d, i => if i / 2 < n / 2 then (s (i / 2) + d (i / 2) + 1) / 2 else (s (n / 2) + 1) / 2
  | .half, n, s, d, i => pJ n s d i
  | .guess, n, s, d, i => if i % 2 = 0 then cF n s d (i / 2) else d (i / 2) + (cF n s d (i / 2) + nr (hf n) (cF n s d) (((i / 2 : Nat) : Int) + 1) + 1) / 2
  | .lean, n, s, d, i => pJ n s (cM n s d) i
theorem d20 (k : Nat) : 2 * k / 2 = k := by omega
theorem d21 (k : Nat) : (2 * k + 1) / 2 = k := by omega
theorem m20 (k : Nat) : 2 * k % 2 = 0 := by omega
theorem m21 (k : Nat) : ¬ (2 * k + 1) % 2 = 0 := by omega
section
variable {n k : Nat} {s d : Nat → Int}
theorem bk_sum_e (h : k < n / 2) : bk .sum n s d (2 * k) = (s k + d k) / 2 := by unfold bk; dsimp only; rw [d20, if_pos h, if_pos (m20 k)]
theorem bk_sum_o (h : k < n / 2) : bk .sum n s d (2 * k + 1) = s k - (s k + d k) / 2 := by unfold bk; dsimp only; rw [d21, if_pos h, if_neg (m21 k)]
theorem bk_sum_l : bk .sum n s d (2 * (n / 2)) = s (n / 2) / 2 := by unfold bk; dsimp only; rw [d20, if_neg (by omega)]
theorem hB_e (h : k < n / 2) : hB n s d (2 * k) = s k + (d k + 1) / 2 := by unfold hB; rw [d20, if_pos h, if_pos (m20 k)]
theorem hB_o (h : k < n / 2) : hB n s d (2 * k + 1) = s k + (d k + 1) / 2 - d k := by unfold hB; rw [d21, if_pos h, if_neg (m21 k)]
theorem hB_l : hB n s d (2 * (n / 2)) = s (n / 2) := by unfold hB; rw [d20, if_neg (by omega)]
theorem bk_g_e : bk .guess n s d (2 * k) = gF n s d k := by unfold bk; dsimp only; rw [d20, if_pos (m20 k)]
theorem bk_g_o : bk .guess n s d (2 * k + 1) = d k + (gF n s d k + nr (hf n) (gF n s d) ((k : Int) + 1)) / 2 := by unfold bk; dsimp only; rw [d21, if_neg (m21 k)]
theorem pJ_e (h : k < n / 2) : pJ n s d (2 * k) = s k + (d k + 1) / 2 := by unfold pJ; rw [d20, if_pos h]
theorem pJ_o (h : k < n / 2) : pJ n s d (2 * k + 1) = s k + (d k + 1) / 2 := by unfold pJ; rw [d21, if_pos h]
theorem pJ_l : pJ n s d (2 * (n / 2)) = s (n / 2) := by unfold pJ; rw [d20, if_neg (by omega)]
theorem cb_sum_e (h : k < n / 2) : cb .sum n s d (2 * k) = (s k + d k + 1) / 2 := by unfold cb; dsimp only; rw [d20, if_pos h]
theorem cb_sum_o (h : k < n / 2) : cb .sum n s d (2 * k + 1) = (s k + d k + 1) / 2 := by unfold cb; dsimp only; rw [d21, if_pos h]
theorem cb_sum_l : cb .sum n s d (2 * (n / 2)) = (s (n / 2) + 1) / 2 := by unfold cb; dsimp only; rw [d20, if_neg (by omega)]
theorem cb_g_e : cb .guess n s d (2 * k) = cF n s d k := by unfold cb; dsimp only; rw [d20, if_pos (m20 k)]
theorem cb_g_o : cb .guess n s d (2 * k + 1) = d k + (cF n s d k + nr (hf n) (cF n s d) ((k : Int) + 1) + 1) / 2 := by unfold cb; dsimp only; rw [d21, if_neg (m21 k)]
end
/-! ### whole rows, fields -/
def hv (r : Rl) (n : Nat) (f : Nat → Int) (x : Nat) : Int := if x < hf n then pS r n f x else pD r n f (x - hf n)
def bkr (r : Rl) (n : Nat) (f : Nat → Int) (x : Nat) : Int := bk r n f (fun k => f (hf n + k)) x
def cbr (r : Rl) (n : Nat) (f : Nat → Int) (x : Nat) : Int := cb r n f (fun k => f (hf n + k)) x
abbrev G2 := Nat → Nat → Int
def rowsOp (op : Nat → (Nat → Int) → Nat → Int) (c : Nat × Nat) (g : G2) : G2 := fun y x => if y < c.1 ∧ x < c.2 then op c.2 (g y) x else g y x
def pillOp (op : Nat → (Nat → Int) → Nat → Int) (c : Nat × Nat) (g : G2) : G2 := fun y x => if y < c.1 ∧ x < c.2 then op c.1 (fun t => g t x) y else g y x
def stepF (op : Nat → (Nat → Int) → Nat → Int) (l : L) (c : Nat × Nat) (g : G2) : G2 :=
  let g1 := if l.isR = true then rowsOp op c g else g
  if l.isP = true then pillOp op c g1 else g1
def stepR (op : Nat → (Nat → Int) → Nat → Int) (l : L) (c : Nat × Nat) (g : G2) : G2 :=
  let g1 := if l.isP = true then pillOp op c g else g
  if l.isR = true then rowsOp op c g1 else g1
/-- the first k steps, one after another -/
def fwd (r : Rl) (c : Nat × Nat) (ws : List L) (g : G2) : Nat → G2
  | 0 => g
  | k + 1 => match ws[k]? with
    | some l => stepF (hv r) l (cnr c ws k) (fwd r c ws g k)
    | none => fwd r c ws g k
/-- the last i steps, the last first -/
def bwd (op : Nat → (Nat → Int) → Nat → Int) (c : Nat × Nat) (ws : List L) (g : G2) : Nat → G2
  | 0 => g
  | i + 1 => match ws[ws.length - 1 - i]? with
    | some l => stepR op l (cnr c ws (ws.length - 1 - i)) (bwd op c ws g i)
    | none => bwd op c ws g i
def halvedM (r : Rl) (c : Nat × Nat) (ws : List L) (g : G2) : G2 := fwd r c ws g ws.length
def backM (r : Rl) (c : Nat × Nat) (ws : List L) (g : G2) : G2 := bwd (bkr r) c ws g ws.length
def worstM (r : Rl) (c : Nat × Nat) (ws : List L) (g : G2) : G2 := bwd (cbr r) c ws g ws.length
end Kp
/-! rules' words, plans -/
namespace Kp
open PySem PySem.Spec L2
def Rl.word : Rl → Str
  | .sum => "sum"
  | .half => "half"
  | .guess => "guess"
  | .lean => "lean"
def Rl.cn : Rl → Str
  | .sum => "Sums"
  | .half => "Halves"
  | .guess => "Guessed"
  | .lean => "Leaning"
def RuleAt (K : PySem.W.Frag) (H : Hp) (p : Addr) (r : Rl) : Prop := ∃ dx, H p = some (.ins (He.ga K r.cn) dx [])
theorem RuleAt.same {K : PySem.W.Frag} {H H' : Hp} {p : Addr} {r : Rl} (f : RuleAt K H p r) (s : Same H H') : RuleAt K H' p r := let ⟨dx, e⟩ := f; ⟨dx, s _ _ e⟩
def wayS (ws : List L) : Str := ⟨(ws.map L.code).toArray⟩
def lV (l : L) : V := .str ⟨#[l.code]⟩
theorem wWay {ws : List L} : Walk (Its (wayS ws)) ws.length (fun _ => True) (fun i H v H' => H' = H ∧ ∃ l, ws[i]? = some l ∧ v = lV l) := by
  have w := walk_str (z := wayS ws)
  rw [show (wayS ws).cps.size = ws.length by unfold wayS; simp] at w
  refine w.mono (fun _ h => h) fun i H x H' hi _ ⟨e, c, hc, ex⟩ => ⟨e, ?_⟩
  have h2 : ws[i]? = some ws[i] := List.getElem?_eq_getElem hi
  refine ⟨ws[i], h2, ?_⟩
  have : (wayS ws).cps[i]? = some (ws[i]).code := by
    unfold wayS
    rw [List.getElem?_toArray, List.getElem?_map, h2]
    rfl
  rw [this] at hc
  rw [ex, ← Option.some.inj hc]
  rfl
theorem way_len {ws : List L} : (wayS ws).length = ws.length := by
  show (wayS ws).cps.size = ws.length
  unfold wayS
  simp
theorem inRB {l : L} : decide (l.code ∈ ("rb" : Str).cps.toList) = l.isR := by cases l <;> decide
theorem inPB {l : L} : decide (l.code ∈ ("pb" : Str).cps.toList) = l.isP := by cases l <;> decide
theorem inRPB {l : L} : decide (l.code ∈ ("rpb" : Str).cps.toList) = true := by cases l <;> decide
def fP (ra : Addr) (ws : List L) (ca : Addr) : List (Str × V) := [("ruled", .ref ra), ("letters", .str (wayS ws)), ("corners", .ref ca)]
def cT (c : Nat × Nat) : HO := .tup [.int (c.1 : Int), .int (c.2 : Int)]
/-- the corners of a way -/
structure Cnrs (H : Hp) (a : Addr) (ta : Nat → Addr) (c : Nat × Nat) (ws : List L) (n : Nat) : Prop where
  top : H a = some (.lst (tab (n + 1) fun i => .ref (ta i)))
  it : ∀ i, i ≤ n → H (ta i) = some (cT (cnr c ws i))
theorem Cnrs.same {H H' : Hp} {a : Addr} {ta : Nat → Addr} {c : Nat × Nat} {ws : List L} {n : Nat} (r : Cnrs H a ta c ws n) (s : Same H H') : Cnrs H' a ta c ws n := ⟨s _ _ r.top, fun i h => s _ _ (r.it i h)⟩
structure PlanAt (K : PySem.W.Frag) (H : Hp) (p : Addr) (h w : Nat) (r : Rl) (ws : List L) : Prop where
  at_ : ∃ (dx ra ca : Addr) (ta : Nat → Addr), H p = some (.ins (He.ga K "Plan") dx (fP ra ws ca)) ∧ RuleAt K H ra r ∧ Cnrs H ca ta (h, w) ws ws.length
  sz : Sz h w
  ok : WOk (h, w) ws
theorem PlanAt.same {K : PySem.W.Frag} {H H' : Hp} {p : Addr} {h w : Nat} {r : Rl} {ws : List L} (f : PlanAt K H p h w r ws) (s : Same H H') : PlanAt K H' p h w r ws :=
  let ⟨dx, ra, ca, ta, e, q, c⟩ := f.at_; ⟨⟨dx, ra, ca, ta, s _ _ e, q.same s, c.same s⟩, f.sz, f.ok⟩
theorem PlanAt.wlen {K : PySem.W.Frag} {H : Hp} {p : Addr} {h w : Nat} {r : Rl} {ws : List L} (f : PlanAt K H p h w r ws) : ws.length ≤ 126 := by
  have h1 := f.ok.len ⟨f.sz.h1, f.sz.w1⟩
  have h2 := f.sz.h2
  have h3 := f.sz.w2
  dsimp only at h1
  omega
theorem Sz.cn {h w : Nat} (z : Sz h w) (ws : List L) (k : Nat) : Sz (cnr (h, w) ws k).1 (cnr (h, w) ws k).2 := by
  have a := cnr_le ws k (h, w)
  have b := cnr_pos ws k (h, w) ⟨z.h1, z.w1⟩
  exact ⟨b.1, Nat.le_trans a.1 z.h2, b.2, Nat.le_trans a.2 z.w2, Nat.le_trans (Nat.mul_le_mul a.1 a.2) z.hw⟩
def p_word (r : Rl) : Pm := fun vs H Q => ∃ x : V, vs = [x] ∧ Q (.str r.word) H
def wordsL : List V := [.str "sum", .str "half", .str "guess", .str "lean"]
def p_words : Pm := fun vs H Q => vs = [] ∧ ∀ D, H D = none → Q (.ref D) (upd H D (.lst wordsL))
def p_rule_of (K : PySem.W.Frag) : Pm := fun vs H Q => ∃ r : Rl, vs = [.str r.word] ∧ ∀ a H', Same H H' → H a = none → RuleAt K H' a r → Q (.ref a) H'
def p_is_size : Pm := fun vs H Q => ∃ h w : Nat, vs = [.int h, .int w] ∧ Sz h w ∧ Q (.bl true) H
def p_corners_of : Pm := fun vs H Q => ∃ (h w : Nat) (ws : List L), vs = [.int h, .int w, .str (wayS ws)] ∧ Sz h w ∧ WOk (h, w) ws ∧ ∀ D H' ta, Same H H' → Cnrs H' D ta (h, w) ws ws.length → Q (.ref D) H'
def p_Plan_init (K : PySem.W.Frag) : Pm := fun vs H Q => ∃ (p dx : Addr) (h w : Nat) (r : Rl) (ws : List L), vs = [.ref p, .int h, .int w, .str r.word, .str (wayS ws)] ∧ H p = some (.ins (He.ga K "Plan") dx []) ∧ Sz h w ∧ WOk (h, w) ws ∧
  ∀ H', (∀ b o, b ≠ p → H b = some o → H' b = some o) → PlanAt K H' p h w r ws → Q .non H'
def p_pl (K : PySem.W.Frag) (f : Nat → Nat → Rl → List L → V) : Pm := fun vs H Q => ∃ (p : Addr) (h w : Nat) (r : Rl) (ws : List L), vs = [.ref p] ∧ PlanAt K H p h w r ws ∧ Q (f h w r ws) H
def p_Plan_rule (K : PySem.W.Frag) : Pm := fun vs H Q => ∃ (p : Addr) (h w : Nat) (r : Rl) (ws : List L), vs = [.ref p] ∧ PlanAt K H p h w r ws ∧ ∀ a, RuleAt K H a r → Q (.ref a) H
def p_Plan_corner (K : PySem.W.Frag) : Pm := fun vs H Q => ∃ (p : Addr) (h w : Nat) (r : Rl) (ws : List L) (k : Nat), vs = [.ref p, .int k] ∧ PlanAt K H p h w r ws ∧ k ≤ ws.length ∧ ∀ a, H a = some (cT (cnr (h, w) ws k)) → Q (.ref a) H
section
variable {P : Program} {w : World} {K : PySem.W.Frag} {mg : Str → Option Value} {base : Heap}
theorem ok_Sums_word (S : TX K mg) : OkF P w K mg base 1 (He.ma K (He.ga K "Sums") "word") (p_word .sum) := by
  refine okF (F_Sums_word S) sc_Sums_word (by tm_at "len") (fun _ _ _ _ _ _ us hl => match us, hl with | [_], _ => rfl) (fun cdv A outer s H vs Q E hr h => ?_)
  obtain ⟨x, rfl, q⟩ := h
  refine ⟨_, (pss_one (ps_ret pe_str)), ?_⟩
  tm_at "go"
  exact q
theorem ok_Halves_word (S : TX K mg) : OkF P w K mg base 1 (He.ma K (He.ga K "Halves") "word") (p_word .half) := by
  refine okF (F_Halves_word S) sc_Halves_word (by tm_at "len") (fun _ _ _ _ _ _ us hl => match us, hl with | [_], _ => rfl) (fun cdv A outer s H vs Q E hr h => ?_)
  obtain ⟨x, rfl, q⟩ := h
  refine ⟨_, (pss_one (ps_ret pe_str)), ?_⟩
  tm_at "go"
  exact q
theorem ok_Guessed_word (S : TX K mg) : OkF P w K mg base 1 (He.ma K (He.ga K "Guessed") "word") (p_word .guess) := by
  refine okF (F_Guessed_word S) sc_Guessed_word (by tm_at "len") (fun _ _ _ _ _ _ us hl => match us, hl with | [_], _ => rfl) (fun cdv A outer s H vs Q E hr h => ?_)
  obtain ⟨x, rfl, q⟩ := h
  refine ⟨_, (pss_one (ps_ret pe_str)), ?_⟩
  tm_at "go"
  exact q
theorem ok_Leaning_word (S : TX K mg) : OkF P w K mg base 1 (He.ma K (He.ga K "Leaning") "word") (p_word .lean) := by
  refine okF (F_Leaning_word S) sc_Leaning_word (by tm_at "len") (fun _ _ _ _ _ _ us hl => match us, hl with | [_], _ => rfl) (fun cdv A outer s H vs Q E hr h => ?_)
  obtain ⟨x, rfl, q⟩ := h
  refine ⟨_, (pss_one (ps_ret pe_str)), ?_⟩
  tm_at "go"
  exact q
theorem ok_words (S : TX K mg) : OkF P w K mg base 1 (He.ga K "words") (p_words) := by
  refine okF (F_words S) sc_words (by tm_at "len") (fun _ _ _ _ _ _ us hl => match us, hl with | [], _ => rfl) (fun cdv A outer s H vs Q E hr h => ?_)
  obtain ⟨rfl, q⟩ := h
  refine ⟨_, (pss_one (ps_ret (pe_lst (pa_cons pe_str (pa_cons pe_str (pa_cons pe_str (pa_cons pe_str pa_nil))))))), ?_⟩
  tm_at "go"
  exact ⟨by show 4 ≤ sizeLine; decide, q⟩
theorem ok_rule_of (S : TX K mg) : OkF P w K mg base 2 (He.ga K "rule_of") (p_rule_of K) := by
  refine okF (F_rule_of S) sc_rule_of (by tm_at "len") (fun _ _ _ _ _ _ us hl => match us, hl with | [_], _ => rfl) (fun cdv A outer s H vs Q E hr h => ?_)
  obtain ⟨r, rfl, q⟩ := h
  refine ⟨_, (pss_cons (ps_if (PW.pt (pw_or (pt_not (pt_val (pe_callB (kIsi (K := K) rfl) rfl (fr_isinstance S) bt_isinstance (pa_cons (pv 0) (pa_cons (pe_bltn (v := .ty "str") rfl (fr_str S) bt_str rfl) pa_nil))))) (pw_or1 (pt_cmpR (kNotInS (K := K) rfl) (pv 0) (pe_f0 (ok_words S) (hr.mono (by decide)) rfl (glo_words S)) rfl)))) (pss_one ps_never) pss_nil)
    (pss_cons (ps_if (pt_cmpR op_eq (pv 0) pe_str (nomark _)) (pss_one (ps_ret (pe_new (noi_Sums S) rfl (glo_Sums S)))) pss_nil)
    (pss_cons (ps_if (pt_cmpR op_eq (pv 0) pe_str (nomark _)) (pss_one (ps_ret (pe_new (noi_Halves S) rfl (glo_Halves S)))) pss_nil)
    (pss_cons (ps_if (pt_cmpR op_eq (pv 0) pe_str (nomark _)) (pss_one (ps_ret (pe_new (noi_Guessed S) rfl (glo_Guessed S)))) pss_nil)
    (pss_one (ps_ret (pe_new (noi_Leaning S) rfl (glo_Leaning S)))))))), ?_⟩
  tm_at "go"
  refine ⟨rfl, fun D hD => ?_⟩
  have s0 : Same H (upd H D (.lst wordsL)) := Same.new hD
  refine ⟨D, wordsL, rfl, .inl (SqL.of upd_same), rfl, rfl, ?_⟩
  have s2 : ∀ {x dx : Addr} {C : Addr}, upd H D (.lst wordsL) x = none → upd H D (.lst wordsL) dx = none → dx ≠ x → Same H (upd (upd (upd H D (.lst wordsL)) dx (.own x)) x (.ins C dx [])) := fun h1 h2 n => (s0.trans (Same.new h2)).trans (Same.new (by rw [upd_ne n.symm]; exact h1))
  cases r with
  | sum =>
    tm_at "go"
    exact fun x dx h1 h2 n => q x _ (s2 h1 h2 n) ((Same.new hD).free h1) ⟨dx, upd_same⟩
  | half =>
    tm_at "go"
    exact fun x dx h1 h2 n => q x _ (s2 h1 h2 n) ((Same.new hD).free h1) ⟨dx, upd_same⟩
  | guess =>
    tm_at "go"
    exact fun x dx h1 h2 n => q x _ (s2 h1 h2 n) ((Same.new hD).free h1) ⟨dx, upd_same⟩
  | lean =>
    tm_at "go"
    exact fun x dx h1 h2 n => q x _ (s2 h1 h2 n) ((Same.new hD).free h1) ⟨dx, upd_same⟩
theorem ok_is_size (S : TX K mg) : OkF P w K mg base 2 (He.ga K "is_size") (p_is_size) := by
  refine okF (F_is_size S) sc_is_size (by tm_at "len") (fun _ _ _ _ _ _ us hl => match us, hl with | [_, _], _ => rfl) (fun cdv A outer s H vs Q E hr h => ?_)
  obtain ⟨h, n, rfl, z, q⟩ := h
  refine ⟨_, (pss_one (ps_ret (pe_and (pe_f (ok_is_whole S) (hr.mono (by decide)) rfl (glo_is_whole S) (pa_cons (pv 0) (pa_cons pe_int (pa_cons pe_int pa_nil)))) (pe_and (pe_f (ok_is_whole S) (hr.mono (by decide)) rfl (glo_is_whole S) (pa_cons (pv 1) (pa_cons pe_int (pa_cons pe_int pa_nil)))) (pe_one (pe_cmpR op_le (pe_op op_mul (pv 0) (pv 1)) pe_int (nomark _))))))), ?_⟩
  have := z.h1
  have := z.h2
  have := z.w1
  have := z.w2
  tm_at "go"
  refine ⟨_, 1, 64, rfl, by omega, by omega, ?_⟩
  tm_at "go"
  refine ⟨_, 1, 64, rfl, by omega, by omega, ?_⟩
  tm_at "go"
  refine gI (.inl (by omega)) ?_
  tm_at "go"
  rw [decide_eq_true (by have := z.hw; rw [← Int.natCast_mul]; omega : (h : Int) * (n : Int) ≤ 512)]
  exact q
theorem flL {n : Nat} (h : Nat.ble (n + 1) 1000 = true) : n < 1000 := Nat.le_of_ble_eq_true h
theorem szL {xs : List V} (h : Nat.ble xs.length 1000 = true) : xs.length ≤ sizeLine := line_le (by have := Nat.le_of_ble_eq_true h; omega)
theorem hf_int {n : Nat} : ((n : Int) + 1) / 2 = ((hf n : Nat) : Int) := by unfold hf; omega
theorem in_sg {c : Nat} {z : Str} {q : Nat → Str → Prop} (h : q c z) : ∃ (d : Nat) (y : Str), V.str ⟨#[c]⟩ = .str ⟨#[d]⟩ ∧ V.str z = .str y ∧ q d y := ⟨c, z, rfl, rfl, h⟩
theorem in_lt {l : L} {z : Str} {q : Nat → Str → Prop} (h : q l.code z) : ∃ (d : Nat) (y : Str), lV l = .str ⟨#[d]⟩ ∧ V.str z = .str y ∧ q d y := ⟨_, z, rfl, rfl, h⟩
theorem ne_tl {H : Hp} {a b : Addr} {xs ys : List V} (h1 : H a = some (.tup xs)) (h2 : H b = some (.lst ys)) : a ≠ b := fun e => by rw [e, h2] at h1; cases h1
theorem Cnrs.push {H : Hp} {D t : Addr} {ta : Nat → Addr} {c : Nat × Nat} {ws : List L} {n : Nat} {o : HO} (x : Cnrs H D ta c ws n) (ht : H t = none) (e : o = cT (cnr c ws (n + 1))) :
    Cnrs (upd (upd H t o) D (.lst (tab (n + 1) (fun i => .ref (ta i)) ++ [.ref t]))) D (ext ta (n + 1) t) c ws (n + 1) := by
  have tD : t ≠ D := fun z => by rw [z, x.top] at ht; cases ht
  refine ⟨?_, fun i hi => ?_⟩
  · have e1 : tab (n + 1) (fun i => V.ref (ta i)) = tab (n + 1) fun i => V.ref (ext ta (n + 1) t i) := tab_congr fun i hi => by rw [ext_lt hi]
    have e2 : V.ref t = V.ref (ext ta (n + 1) t (n + 1)) := by rw [ext_eq]
    rw [upd_same, e1, e2, tab_snoc (f := fun i => V.ref (ext ta (n + 1) t i))]
  · by_cases h : i = n + 1
    · rw [h, ext_eq, upd_ne tD, upd_same, e]
    · have hi2 := x.it i (by omega)
      rw [ext_lt (by omega), upd_ne (ne_tl hi2 x.top), upd_ne (ne_of_none hi2 ht)]
      exact hi2
theorem ok_corners_of (S : TX K mg) : OkF P w K mg base 1 (He.ga K "corners_of") (p_corners_of) := by
  refine okF (F_corners_of S) sc_corners_of (by tm_at "len") (fun _ _ _ _ _ _ us hl => match us, hl with | [_, _, _], _ => rfl) (fun cdv A outer s H vs Q E hr h => ?_)
  obtain ⟨h, n, ws, rfl, z, ok, q⟩ := h
  refine ⟨_, (pss_cons (ps_set (i := 3) sc_corners_of.nd rfl (Or.inl rfl) (pe_lst (pa_cons (pe_tup (pa_cons (pv 0) (pa_cons (pv 1) pa_nil))) pa_nil)))
    (pss_cons (ps_for PassesOwn.never rfl (pi_str (pv 2)) (pg_name (i := 4) sc_corners_of.nd rfl (Or.inl rfl)) (pss_cons (ps_if (pt_cmpR op_in_sign (pv 4) pe_str rfl) (pss_cons (ps_if (pt_cmpR op_lt (pv 1) pe_int (nomark _)) (pss_one (ps_ret pe_non)) pss_nil)
    (pss_one (ps_set (i := 1) sc_corners_of.nd rfl (Or.inl rfl) (pe_op op_fdiv (pe_op op_add (pv 1) pe_int) pe_int)))) pss_nil)
    (pss_cons (ps_if (pt_cmpR op_in_sign (pv 4) pe_str rfl) (pss_cons (ps_if (pt_cmpR op_lt (pv 0) pe_int (nomark _)) (pss_one (ps_ret pe_non)) pss_nil)
    (pss_one (ps_set (i := 0) sc_corners_of.nd rfl (Or.inl rfl) (pe_op op_fdiv (pe_op op_add (pv 0) pe_int) pe_int)))) pss_nil)
    (pss_one (ps_expr (kBM (K := K) rfl PySem.F.plainAttrs_list PySem.F.slot_list_append PySem.F.type_list_append mt_append (pv 3) (pa_cons (pe_tup (pa_cons (pv 0) (pa_cons (pv 1) pa_nil))) pa_nil)))))))
    (pss_one (ps_ret (pv 3))))), ?_⟩
  tm_at "go"
  refine ⟨szL rfl, fun t ht => ?_⟩
  tm_at "go"
  refine ⟨szL rfl, fun D hD => ?_⟩
  tm_at "go"
  have s0 : Same H (upd (upd H t (.tup [.int (h : Int), .int (n : Int)])) D (.lst [.ref t])) := (Same.new ht).trans (Same.new hD)
  have tD : t ≠ D := fun e => by rw [← e, upd_same] at hD; cases hD
  have hD0 : H D = none := (Same.new ht).free hD
  have wl : ws.length ≤ 200 := by
    have h1 := ok.len ⟨z.h1, z.w1⟩
    have h2 := z.h2
    have h3 := z.w2
    dsimp only at h1
    omega
  refine forIt (wWay (ws := ws)) (fun i σ H' => Same H H' ∧ (∃ ta, Cnrs H' D ta (h, n) ws i) ∧ ∃ v, σ = [some (.int ((cnr (h, n) ws i).1 : Int)), some (.int ((cnr (h, n) ws i).2 : Int)), some (.str (wayS ws)), some (.ref D), v])
    ⟨s0, ⟨fun _ => t, by rw [upd_same]; rfl, fun i hi => by rw [upd_ne tD, upd_same, show i = 0 by omega, cnr_zero]; rfl⟩, none, by rw [cnr_zero]; rfl⟩ (fun _ _ _ _ _ => trivial) ?_ ?_
  · rintro i x σ H1 H2 hi ⟨s1, ⟨ta, c⟩, v, rfl⟩ ⟨rfl, l, hl, rfl⟩
    have e1 := cnr_succ (c := (h, n)) hl
    obtain ⟨k1, k2⟩ := ok.at hl
    have fin : ∀ (t : Addr) (o : HO), H2 t = none → o = cT (cnr (h, n) ws (i + 1)) → Same H (upd (upd H2 t o) D (.lst (tab (i + 1) (fun i => .ref (ta i)) ++ [.ref t]))) ∧ ∃ tb, Cnrs (upd (upd H2 t o) D (.lst (tab (i + 1) (fun i => .ref (ta i)) ++ [.ref t]))) D tb (h, n) ws (i + 1) :=
      fun t o ht e => ⟨(s1.trans (Same.new ht)).mut hD0, _, c.push ht e⟩
    generalize cnr (h, n) ws i = cc at *
    generalize cnr (h, n) ws (i + 1) = c2 at *
    subst e1
    have ln : (tab (i + 1) fun i => V.ref (ta i)).length < sizeLine := by rw [tab_len]; exact line_lt (by omega)
    tm_at "go"
    refine in_lt ?_
    rw [inRB]
    cases l with
    | r =>
      tm_at "go"
      refine gIfF (decide_eq_false (by have := k1 rfl; omega)) ?_
      tm_at "go"
      refine in_lt ?_
      rw [inPB]
      tm_at "go"
      refine ⟨.inl ⟨rfl, _, SqL.of c.top⟩, ?_⟩
      tm_at "go"
      refine ⟨szL rfl, fun t ht => ?_⟩
      tm_at "go"
      refine ⟨D, _, _, rfl, rfl, get_new ht c.top, ln, ?_⟩
      rw [hf_int]
      obtain ⟨f1, ta2, f2⟩ := fin t _ ht rfl
      exact ⟨f1, ⟨ta2, f2⟩, _, rfl⟩
    | p =>
      tm_at "go"
      refine in_lt ?_
      rw [inPB]
      tm_at "go"
      refine gIfF (decide_eq_false (by have := k2 rfl; omega)) ?_
      tm_at "go"
      refine ⟨.inl ⟨rfl, _, SqL.of c.top⟩, ?_⟩
      tm_at "go"
      refine ⟨szL rfl, fun t ht => ?_⟩
      tm_at "go"
      refine ⟨D, _, _, rfl, rfl, get_new ht c.top, ln, ?_⟩
      rw [hf_int]
      obtain ⟨f1, ta2, f2⟩ := fin t _ ht rfl
      exact ⟨f1, ⟨ta2, f2⟩, _, rfl⟩
    | b =>
      tm_at "go"
      refine gIfF (decide_eq_false (by have := k1 rfl; omega)) ?_
      tm_at "go"
      refine in_lt ?_
      rw [inPB]
      tm_at "go"
      refine gIfF (decide_eq_false (by have := k2 rfl; omega)) ?_
      tm_at "go"
      refine ⟨.inl ⟨rfl, _, SqL.of c.top⟩, ?_⟩
      tm_at "go"
      refine ⟨szL rfl, fun t ht => ?_⟩
      tm_at "go"
      refine ⟨D, _, _, rfl, rfl, get_new ht c.top, ln, ?_⟩
      rw [hf_int, hf_int]
      obtain ⟨f1, ta2, f2⟩ := fin t _ ht rfl
      exact ⟨f1, ⟨ta2, f2⟩, _, rfl⟩
  · rintro σ H1 ⟨s1, ⟨ta, c⟩, v, rfl⟩
    tm_at "go"
    exact q _ _ _ s1 c
theorem ok_Plan_init (S : TX K mg) : OkF P w K mg base 3 (He.ma K (He.ga K "Plan") "__init__") (p_Plan_init K) := by
  refine okF (F_Plan_init S) sc_Plan_init (by tm_at "len") (fun _ _ _ _ _ _ us hl => match us, hl with | [_, _, _, _, _], _ => rfl) (fun cdv A outer s H vs Q E hr h => ?_)
  obtain ⟨p, dx, h, n, r, ws, rfl, hp, z, ok, q⟩ := h
  refine ⟨_, (pss_cons (ps_if (pt_not (pt_val (pe_f (ok_is_size S) (hr.mono (by decide)) rfl (glo_is_size S) (pa_cons (pv 1) (pa_cons (pv 2) pa_nil))))) (pss_one ps_never) pss_nil)
    (pss_cons (kSFld (K := K) rfl (pv 0) (pe_f (ok_rule_of S) (hr.mono (by decide)) rfl (glo_rule_of S) (pa_cons (pv 3) pa_nil)) rfl)
    (pss_cons (ps_if (PW.pt (pw_or (pt_not (pt_val (pe_callB (kIsi (K := K) rfl) rfl (fr_isinstance S) bt_isinstance (pa_cons (pv 4) (pa_cons (pe_bltn (v := .ty "str") rfl (fr_str S) bt_str rfl) pa_nil))))) (pw_or1 (pt_cmpR (kNeD (K := K) rfl hr.units) (pe_lc (own := [("letter", 6)]) (g := gName 6) rfl sc_Plan_init.nd (pi_str (pv 4)) (blkOk_by (own := [("letter", 6)]) (N := ["self", "height", "width", "word", "way", "corners", "letter"]) (sc := defScope s_Plan_init) (by decide +kernel)) (fun _ _ _ _ _ => (pg_name (i := 6) sc_Plan_init.nd rfl (Or.inl rfl))) (fun _ _ _ _ _ => (pts_one (pt_cmpR op_notIn_sign (pv 6) pe_str rfl))) (fun _ _ _ _ _ => (pv 6))) (pe_lst pa_nil) (nomark _))))) (pss_one ps_never) pss_nil)
    (pss_cons (kSFld (K := K) rfl (pv 0) (pv 4) rfl)
    (pss_cons (ps_set (i := 5) sc_Plan_init.nd rfl (Or.inl rfl) (pe_f (ok_corners_of S) (hr.mono (by decide)) rfl (glo_corners_of S) (pa_cons (pv 1) (pa_cons (pv 2) (pa_cons (pv 4) pa_nil)))))
    (pss_cons (ps_if (pt_cmpR op_isN (pv 5) pe_non (nomark _)) (pss_one ps_never) pss_nil)
    (pss_one (kSFld (K := K) rfl (pv 0) (pv 5) rfl)))))))), ?_⟩
  tm_at "go"
  refine ⟨h, n, rfl, z, ?_⟩
  tm_at "go"
  refine ⟨r, rfl, fun ra H1 s1 nr hr1 => ?_⟩
  tm_at "go"
  obtain ⟨qx, hq⟩ := hr1
  have hp1 := s1 _ _ hp
  refine ⟨p, _, dx, [], rfl, hp1, cls_Plan S, na_Plan_ruled S, by decide, ?_⟩
  tm_at "go"
  intro D hD
  refine lcIt (wWay (ws := ws)) (fun i H' => H' = upd (upd H1 p (.ins (He.ga K "Plan") dx (putF "ruled" (.ref ra) []))) D (.lst [])) rfl (fun _ _ _ _ => trivial) ?_ ?_
  · rintro i x H2 H3 hi rfl ⟨rfl, l, hl, rfl⟩
    tm_at "go"
    refine ⟨rfl, ?_⟩
    tm_at "go"
    refine in_lt ?_
    rw [inRPB]
    tm_at "go"
    rfl
  · rintro H2 rfl
    tm_at "go"
    refine ⟨szL rfl, fun D2 hD2 => ?_⟩
    have e1 := get_new (o := .lst []) hD2 (a := D) upd_same
    refine ⟨_, _, .lst (SqL.of e1) .nil, .lst (SqL.of upd_same) .nil, rfl, rfl, ?_⟩
    tm_at "go"
    have hpD : p ≠ D := fun e => by rw [← e, upd_same] at hD; cases hD
    have hpD2 : p ≠ D2 := fun e => by rw [← e, upd_ne hpD, upd_same] at hD2; cases hD2
    refine ⟨p, _, dx, [("ruled", .ref ra)], rfl, by rw [upd_ne hpD2, upd_ne hpD, upd_same]; rfl, cls_Plan S, na_Plan_letters S, flL rfl, ?_⟩
    tm_at "go"
    refine ⟨h, n, ws, rfl, z, ok, fun D3 H3 ta s3 c => ?_⟩
    tm_at "go"
    refine ⟨rfl, ?_⟩
    tm_at "go"
    refine ⟨p, _, dx, [("ruled", .ref ra), ("letters", .str (wayS ws))], rfl, s3 _ _ upd_same, cls_Plan S, na_Plan_corners S, flL rfl, ?_⟩
    have keep : ∀ b o, b ≠ p → H1 b = some o → H3 b = some o := fun b o n e => s3 _ _ (by
      rw [upd_ne n]
      have e2 : upd H1 p (.ins (He.ga K "Plan") dx (putF "ruled" (.ref ra) [])) b = some o := by rw [upd_ne n]; exact e
      exact get_new hD2 (get_new hD e2))
    have e3 := s3 _ _ (upd_same (H := upd (upd (upd H1 p (.ins (He.ga K "Plan") dx (putF "ruled" (.ref ra) []))) D (.lst [])) D2 (.lst [])) (a := p) (o := .ins (He.ga K "Plan") dx (putF "letters" (.str (wayS ws)) [("ruled", .ref ra)])))
    have rp : ra ≠ p := (ne_of_none hp nr).symm
    refine q _ (fun b o n e => by rw [upd_ne n]; exact keep b o n (s1 _ _ e)) ⟨⟨dx, ra, D3, ta, upd_same, ⟨qx, by rw [upd_ne rp]; exact keep _ _ rp hq⟩, ?_⟩, z, ok⟩
    have cp : D3 ≠ p := fun e => by have := c.top; rw [e, e3] at this; cases this
    refine ⟨by rw [upd_ne cp]; exact c.top, fun i hi => ?_⟩
    have tp : ta i ≠ p := fun e => by have := c.it i hi; rw [e, e3] at this; cases this
    rw [upd_ne tp]
    exact c.it i hi
def p_Plan_height (K : PySem.W.Frag) : Pm := p_pl K fun h _ _ _ => .int h
def p_Plan_width (K : PySem.W.Frag) : Pm := p_pl K fun _ w _ _ => .int w
def p_Plan_way (K : PySem.W.Frag) : Pm := p_pl K fun _ _ _ ws => .str (wayS ws)
def p_Plan_steps (K : PySem.W.Frag) : Pm := p_pl K fun _ _ _ ws => .int (ws.length : Nat)
theorem ok_Plan_height (S : TX K mg) : OkF P w K mg base 1 (He.ma K (He.ga K "Plan") "height") (p_Plan_height K) := by
  refine okF (F_Plan_height S) sc_Plan_height (by tm_at "len") (fun _ _ _ _ _ _ us hl => match us, hl with | [_], _ => rfl) (fun cdv A outer s H vs Q E hr h => ?_)
  obtain ⟨p, h, n, r, ws, rfl, ⟨⟨dx, ra, ca, ta, hp, hr1, c⟩, z, ok⟩, q⟩ := h
  refine ⟨_, (pss_one (ps_ret (pe_ix (kIxT (K := K) rfl) (pe_ix (kIxL (K := K) rfl) (kFld (K := K) rfl (pv 0) rfl) pe_int (fun _ _ => rfl)) pe_int (fun _ _ => rfl)))), ?_⟩
  tm_at "go"
  refine gFldE hp (cls_Plan S) (na_Plan_corners S) rfl ?_
  tm_at "go"
  refine gIxL (SqL.of c.top) (at_tab (i := 0) (by omega)) ?_
  tm_at "go"
  refine gIxT (SqT.of (c.it 0 (by omega))) (i := 0) rfl ?_
  rw [cnr_zero]
  exact q
theorem ok_Plan_width (S : TX K mg) : OkF P w K mg base 1 (He.ma K (He.ga K "Plan") "width") (p_Plan_width K) := by
  refine okF (F_Plan_width S) sc_Plan_width (by tm_at "len") (fun _ _ _ _ _ _ us hl => match us, hl with | [_], _ => rfl) (fun cdv A outer s H vs Q E hr h => ?_)
  obtain ⟨p, h, n, r, ws, rfl, ⟨⟨dx, ra, ca, ta, hp, hr1, c⟩, z, ok⟩, q⟩ := h
  refine ⟨_, (pss_one (ps_ret (pe_ix (kIxT (K := K) rfl) (pe_ix (kIxL (K := K) rfl) (kFld (K := K) rfl (pv 0) rfl) pe_int (fun _ _ => rfl)) pe_int (fun _ _ => rfl)))), ?_⟩
  tm_at "go"
  refine gFldE hp (cls_Plan S) (na_Plan_corners S) rfl ?_
  tm_at "go"
  refine gIxL (SqL.of c.top) (at_tab (i := 0) (by omega)) ?_
  tm_at "go"
  refine gIxT (SqT.of (c.it 0 (by omega))) (i := 1) rfl ?_
  rw [cnr_zero]
  exact q
theorem ok_Plan_rule (S : TX K mg) : OkF P w K mg base 1 (He.ma K (He.ga K "Plan") "rule") (p_Plan_rule K) := by
  refine okF (F_Plan_rule S) sc_Plan_rule (by tm_at "len") (fun _ _ _ _ _ _ us hl => match us, hl with | [_], _ => rfl) (fun cdv A outer s H vs Q E hr h => ?_)
  obtain ⟨p, h, n, r, ws, rfl, ⟨⟨dx, ra, ca, ta, hp, hr1, c⟩, z, ok⟩, q⟩ := h
  refine ⟨_, (pss_one (ps_ret (kFld (K := K) rfl (pv 0) rfl))), ?_⟩
  tm_at "go"
  exact gFldE hp (cls_Plan S) (na_Plan_ruled S) rfl (q _ hr1)
theorem ok_Plan_way (S : TX K mg) : OkF P w K mg base 1 (He.ma K (He.ga K "Plan") "way") (p_Plan_way K) := by
  refine okF (F_Plan_way S) sc_Plan_way (by tm_at "len") (fun _ _ _ _ _ _ us hl => match us, hl with | [_], _ => rfl) (fun cdv A outer s H vs Q E hr h => ?_)
  obtain ⟨p, h, n, r, ws, rfl, ⟨⟨dx, ra, ca, ta, hp, hr1, c⟩, z, ok⟩, q⟩ := h
  refine ⟨_, (pss_one (ps_ret (kFld (K := K) rfl (pv 0) rfl))), ?_⟩
  tm_at "go"
  exact gFldE hp (cls_Plan S) (na_Plan_letters S) rfl q
theorem ok_Plan_steps (S : TX K mg) : OkF P w K mg base 1 (He.ma K (He.ga K "Plan") "steps") (p_Plan_steps K) := by
  refine okF (F_Plan_steps S) sc_Plan_steps (by tm_at "len") (fun _ _ _ _ _ _ us hl => match us, hl with | [_], _ => rfl) (fun cdv A outer s H vs Q E hr h => ?_)
  obtain ⟨p, h, n, r, ws, rfl, F, q⟩ := h
  refine ⟨_, (pss_one (ps_ret (pe_callB (kLen (K := K) rfl) rfl (fr_len S) bt_len (pa_cons (kFld (K := K) rfl (pv 0) rfl) pa_nil)))), ?_⟩
  have wl := F.wlen
  obtain ⟨⟨dx, ra, ca, ta, hp, hr1, c⟩, z, ok⟩ := F
  tm_at "go"
  refine gFldE hp (cls_Plan S) (na_Plan_letters S) rfl ?_
  tm_at "go"
  exact ⟨_, ws.length, rfl, ⟨by rw [way_len]; exact line_le (by omega), way_len.symm⟩, q⟩
theorem ok_Plan_corner (S : TX K mg) : OkF P w K mg base 2 (He.ma K (He.ga K "Plan") "corner") (p_Plan_corner K) := by
  refine okF (F_Plan_corner S) sc_Plan_corner (by tm_at "len") (fun _ _ _ _ _ _ us hl => match us, hl with | [_, _], _ => rfl) (fun cdv A outer s H vs Q E hr h => ?_)
  obtain ⟨p, h, n, r, ws, k, rfl, F, hk, q⟩ := h
  refine ⟨_, (pss_cons (ps_if (pt_not (pt_val (pe_f (ok_is_whole S) (hr.mono (by decide)) rfl (glo_is_whole S) (pa_cons (pv 1) (pa_cons pe_int (pa_cons (pe_mt0 (pv 0) (cls_Plan S) (me_Plan_steps S) (ok_Plan_steps S) (hr.mono (by decide))) pa_nil)))))) (pss_one ps_never) pss_nil)
    (pss_one (ps_ret (pe_ix (kIxL (K := K) rfl) (kFld (K := K) rfl (pv 0) rfl) (pv 1) (fun _ _ => rfl))))), ?_⟩
  have wl := F.wlen
  have F0 := F
  obtain ⟨⟨dx, ra, ca, ta, hp, hr1, c⟩, z, ok⟩ := F0
  tm_at "go"
  refine gMeE hp rfl ?_
  tm_at "go"
  refine ⟨p, h, n, r, ws, rfl, F, ?_⟩
  refine ⟨_, _, _, rfl, by omega, by omega, ?_⟩
  tm_at "go"
  refine gFldE hp (cls_Plan S) (na_Plan_corners S) rfl ?_
  tm_at "go"
  exact gIxL (SqL.of c.top) (at_tab (i := k) (by omega)) (q _ (c.it k hk))
/-- at D a list of things that tell xs -/
structure LOf {α : Type} (H : Hp) (D : Addr) (ta : Nat → Addr) (xs : List α) (o : α → HO) : Prop where
  top : H D = some (.lst (tab xs.length fun i => .ref (ta i)))
  it : ∀ i x, xs[i]? = some x → H (ta i) = some (o x)
section
variable {α : Type} {H H' : Hp} {D E : Addr} {ta tb : Nat → Addr} {xs ys : List α} {o : α → HO} {x : α}
omit P w K mg base
theorem LOf.same (r : LOf H D ta xs o) (s : Same H H') : LOf H' D ta xs o := ⟨s _ _ r.top, fun i x h => s _ _ (r.it i x h)⟩
theorem LOf.one {t : Addr} (h : H D = some (.lst [.ref t])) (ht : H t = some (o x)) : LOf H D (fun _ => t) [x] o := ⟨h, fun i y e => by
  cases i with
  | zero => cases e; exact ht
  | succ i => cases e⟩
theorem LOf.three {t u v : Addr} {y z : α} (h : H D = some (.lst [.ref t, .ref u, .ref v])) (ht : H t = some (o x)) (hu : H u = some (o y)) (hv : H v = some (o z)) : LOf H D (fun i => if i = 0 then t else if i = 1 then u else v) [x, y, z] o := ⟨h, fun i w e => by
  rcases i with _ | _ | _ | i
  · cases e; exact ht
  · cases e; exact hu
  · cases e; exact hv
  · cases e⟩
theorem LOf.nil (h : H D = some (.lst [])) : LOf H D ta ([] : List α) o := ⟨h, fun i y e => by cases e⟩
def cat (ta : Nat → Addr) (n : Nat) (tb : Nat → Addr) : Nat → Addr := fun i => if i < n then ta i else tb (i - n)
theorem cat_tab {n m : Nat} : tab n (fun i => V.ref (ta i)) ++ tab m (fun i => V.ref (tb i)) = tab (n + m) fun i => V.ref (cat ta n tb i) := by
  rw [tab_app]
  refine tab_congr fun i _ => ?_
  unfold cat
  by_cases h : i < n
  · rw [if_pos h, if_pos h]
  · rw [if_neg h, if_neg h]
theorem LOf.get (r : LOf H D ta xs o) {i : Nat} (h : i < xs.length) : H (ta i) = some (o xs[i]) := r.it i _ (List.getElem?_eq_getElem h)
theorem LOf.cat_it (r : LOf H D ta xs o) (r2 : LOf H E tb ys o) (i : Nat) (x : α) (e : (xs ++ ys)[i]? = some x) : H (cat ta xs.length tb i) = some (o x) := by
  unfold cat
  by_cases h : i < xs.length
  · rw [if_pos h]
    rw [List.getElem?_append_left h] at e
    exact r.it i x e
  · rw [if_neg h]
    rw [List.getElem?_append_right (by omega)] at e
    exact r2.it _ x e
theorem LOf.mut {u : HO} {ys : List V} (r : LOf H D ta xs o) (ht : ∀ x, ∃ t, o x = .tup t) (hE : H E = some (.lst ys)) (ne : D ≠ E) : LOf (upd H E u) D ta xs o := by
  refine ⟨by rw [upd_ne ne]; exact r.top, fun i x e => ?_⟩
  have h := r.it i x e
  obtain ⟨t, et⟩ := ht x
  rw [et] at h ⊢
  rw [upd_ne (ne_tl h hE)]
  exact h
theorem LOf.app (r : LOf H D ta xs o) (r2 : LOf H E tb ys o) (ht : ∀ x, ∃ t, o x = .tup t) : LOf (upd H D (.lst (tab xs.length (fun i => .ref (ta i)) ++ tab ys.length fun i => .ref (tb i)))) D (cat ta xs.length tb) (xs ++ ys) o := by
  refine ⟨?_, fun i x e => ?_⟩
  · rw [upd_same, cat_tab, List.length_append]
  · have h := r.cat_it r2 i x e
    obtain ⟨t, et⟩ := ht x
    rw [et] at h ⊢
    rw [upd_ne (ne_tl h r.top)]
    exact h
end
def zS : Nat → Str
  | 0 => "coarse"
  | 1 => "row"
  | 2 => "pillar"
  | _ => "both"
def pT (q : Part) : HO := .tup [.int (q.s : Int), .str (zS q.z), .int (q.t : Int), .int (q.l : Int), .int (q.h : Int), .int (q.w : Int)]
def p_Plan_step_parts (K : PySem.W.Frag) : Pm := fun vs H Q => ∃ (p : Addr) (h w : Nat) (r : Rl) (ws : List L) (k : Nat), vs = [.ref p, .int k] ∧ PlanAt K H p h w r ws ∧ k < ws.length ∧ ∀ D H' ta, Same H H' → LOf H' D ta (stepP (h, w) ws k) pT → Q (.ref D) H'
def p_Plan_parts (K : PySem.W.Frag) : Pm := fun vs H Q => ∃ (p : Addr) (h w : Nat) (r : Rl) (ws : List L), vs = [.ref p] ∧ PlanAt K H p h w r ws ∧ ∀ D H' ta, Same H H' → H D = none → LOf H' D ta (partsM (h, w) ws) pT → Q (.ref D) H'
def p_Plan_order (K : PySem.W.Frag) : Pm := fun vs H Q => ∃ (p : Addr) (h w : Nat) (r : Rl) (ws : List L), vs = [.ref p] ∧ PlanAt K H p h w r ws ∧ ∀ D H' ta, Same H H' → H D = none → LOf H' D ta (orderM (h, w) ws) cT → Q (.ref D) H'
theorem way_at {ws : List L} {k : Nat} {l : L} (h : ws[k]? = some l) : atI (wayS ws).cps.toList (k : Int) = some l.code := by
  unfold atI ixN wayS
  have hk : k < ws.length := (List.getElem?_eq_some_iff.mp h).1
  simp only [List.toList_toArray, List.length_map]
  rw [if_pos (by omega), if_pos (by omega)]
  show (ws.map L.code)[(k : Int).toNat]? = _
  rw [Int.toNat_natCast, List.getElem?_map, h]
  rfl
theorem gIxW {ws : List L} {k : Nat} {l : L} {H : Hp} {Q : VK} (h : ws[k]? = some l) (wl : ws.length ≤ 126) (q : Q (lV l) H) : rIxS (.str (wayS ws)) (.int (k : Int)) H Q :=
  ⟨wayS ws, k, l.code, rfl, rfl, by rw [way_len]; exact line_le (by omega), way_at h, q⟩
theorem fresh_ne {H : Hp} {a b : Addr} {o : HO} (h : H a = some o) (hb : H b = none) : a ≠ b := ne_of_none h hb
theorem cast_sub {a b : Nat} (h : b ≤ a) : (a : Int) - (b : Int) = ((a - b : Nat) : Int) := by omega
theorem ok_Plan_step_parts (S : TX K mg) : OkF P w K mg base 1 (He.ma K (He.ga K "Plan") "step_parts") (p_Plan_step_parts K) := by
  refine okF (F_Plan_step_parts S) sc_Plan_step_parts (by tm_at "len") (fun _ _ _ _ _ _ us hl => match us, hl with | [_, _], _ => rfl) (fun cdv A outer s H vs Q E hr h => ?_)
  obtain ⟨p, h, n, r, ws, k, rfl, F, hk, q⟩ := h
  refine ⟨_, (pss_cons (ps_asg (pe_ix (kIxL (K := K) rfl) (kFld (K := K) rfl (pv 0) rfl) (pv 1) (fun _ _ => rfl)) (kPTup (K := K) (n := 2) rfl rfl (pgs_cons (pg_name (i := 2) sc_Plan_step_parts.nd rfl (Or.inl rfl)) (pgs_cons (pg_name (i := 3) sc_Plan_step_parts.nd rfl (Or.inl rfl)) pgs_nil))))
    (pss_cons (ps_asg (pe_ix (kIxL (K := K) rfl) (kFld (K := K) rfl (pv 0) rfl) (pe_op op_add (pv 1) pe_int) (fun _ _ => rfl)) (kPTup (K := K) (n := 2) rfl rfl (pgs_cons (pg_name (i := 4) sc_Plan_step_parts.nd rfl (Or.inl rfl)) (pgs_cons (pg_name (i := 5) sc_Plan_step_parts.nd rfl (Or.inl rfl)) pgs_nil))))
    (pss_cons (ps_set (i := 6) sc_Plan_step_parts.nd rfl (Or.inl rfl) (pe_ix ix_str (kFld (K := K) rfl (pv 0) rfl) (pv 1) (fun _ _ => rfl)))
    (pss_cons (ps_if (pt_cmpR op_eq (pv 6) pe_str (nomark _)) (pss_one (ps_ret (pe_lst (pa_cons (pe_tup (pa_cons (pv 1) (pa_cons pe_str (pa_cons pe_int (pa_cons (pv 5) (pa_cons (pv 2) (pa_cons (pe_op op_sub (pv 3) (pv 5)) pa_nil))))))) pa_nil)))) pss_nil)
    (pss_cons (ps_if (pt_cmpR op_eq (pv 6) pe_str (nomark _)) (pss_one (ps_ret (pe_lst (pa_cons (pe_tup (pa_cons (pv 1) (pa_cons pe_str (pa_cons (pv 4) (pa_cons pe_int (pa_cons (pe_op op_sub (pv 2) (pv 4)) (pa_cons (pv 3) pa_nil))))))) pa_nil)))) pss_nil)
    (pss_cons (ps_set (i := 7) sc_Plan_step_parts.nd rfl (Or.inl rfl) (pe_lst (pa_cons (pe_tup (pa_cons (pv 1) (pa_cons pe_str (pa_cons pe_int (pa_cons (pv 5) (pa_cons (pv 4) (pa_cons (pe_op op_sub (pv 3) (pv 5)) pa_nil))))))) (pa_cons (pe_tup (pa_cons (pv 1) (pa_cons pe_str (pa_cons (pv 4) (pa_cons pe_int (pa_cons (pe_op op_sub (pv 2) (pv 4)) (pa_cons (pv 5) pa_nil))))))) pa_nil))))
    (pss_one (ps_ret (pe_op op_cat (pv 7) (pe_lst (pa_cons (pe_tup (pa_cons (pv 1) (pa_cons pe_str (pa_cons (pv 4) (pa_cons (pv 5) (pa_cons (pe_op op_sub (pv 2) (pv 4)) (pa_cons (pe_op op_sub (pv 3) (pv 5)) pa_nil))))))) pa_nil))))))))))), ?_⟩
  have wl := F.wlen
  obtain ⟨⟨dx, ra, ca, ta, hp, hr1, c⟩, z, ok⟩ := F
  obtain ⟨l, hl⟩ : ∃ l, ws[k]? = some l := ⟨_, List.getElem?_eq_getElem hk⟩
  have ec := cnr_succ (c := (h, n)) hl
  have le := l.next_le (cnr (h, n) ws k)
  rw [← ec] at le
  tm_at "go"
  refine gFldE hp (cls_Plan S) (na_Plan_corners S) rfl ?_
  tm_at "go"
  refine gIxL (SqL.of c.top) (at_tab (i := k) (by omega)) ?_
  refine gTp (SqT.of (c.it k (by omega))) rfl ?_
  tm_at "go"
  refine gFldE hp (cls_Plan S) (na_Plan_corners S) rfl ?_
  tm_at "go"
  refine gIxL (SqL.of c.top) (at_tabI (i := k + 1) (by omega) (by omega)) ?_
  refine gTp (SqT.of (c.it (k + 1) (by omega))) rfl ?_
  tm_at "go"
  refine gFldE hp (cls_Plan S) (na_Plan_letters S) rfl ?_
  tm_at "go"
  refine gIxW hl wl ?_
  cases l with
  | r =>
    rw [stepP_r hl, ← Int.toNat_natCast (_ - _)] at q
    tm_at "go"
    refine ⟨szL rfl, fun t ht => ?_⟩
    tm_at "go"
    refine ⟨szL rfl, fun D hD => ?_⟩
    rw [cast_sub le.2] at *
    exact q D _ _ ((Same.new ht).trans (Same.new hD)) (LOf.one upd_same (get_new hD upd_same))
  | p =>
    rw [stepP_p hl] at q
    tm_at "go"
    refine ⟨szL rfl, fun t ht => ?_⟩
    tm_at "go"
    refine ⟨szL rfl, fun D hD => ?_⟩
    rw [cast_sub le.1] at *
    exact q D _ _ ((Same.new ht).trans (Same.new hD)) (LOf.one upd_same (get_new hD upd_same))
  | b =>
    rw [stepP_b hl] at q
    tm_at "go"
    refine ⟨szL rfl, fun t ht => ?_⟩
    rw [cast_sub le.2] at *
    tm_at "go"
    refine ⟨szL rfl, fun t2 ht2 => ?_⟩
    rw [cast_sub le.1] at *
    tm_at "go"
    refine ⟨szL rfl, fun D hD => ?_⟩
    tm_at "go"
    refine ⟨szL rfl, fun t3 ht3 => ?_⟩
    rw [cast_sub le.1, cast_sub le.2] at *
    tm_at "go"
    refine ⟨szL rfl, fun D2 hD2 => ?_⟩
    refine ⟨D, D2, _, _, rfl, rfl, get_new hD2 (get_new ht3 upd_same), upd_same, szL (xs := [.ref t, .ref t2, .ref t3]) rfl, fun D3 hD3 => ?_⟩
    exact q D3 _ _ ((Same.new ht).trans ((Same.new ht2).trans ((Same.new hD).trans ((Same.new ht3).trans ((Same.new hD2).trans (Same.new hD3))))))
      (LOf.three upd_same (get_new hD3 (get_new hD2 (get_new ht3 (get_new hD (get_new ht2 upd_same))))) (get_new hD3 (get_new hD2 (get_new ht3 (get_new hD upd_same)))) (get_new hD3 (get_new hD2 upd_same)))
theorem ok_Plan_parts (S : TX K mg) : OkF P w K mg base 2 (He.ma K (He.ga K "Plan") "parts") (p_Plan_parts K) := by
  refine okF (F_Plan_parts S) sc_Plan_parts (by tm_at "len") (fun _ _ _ _ _ _ us hl => match us, hl with | [_], _ => rfl) (fun cdv A outer s H vs Q E hr h => ?_)
  obtain ⟨p, h, n, r, ws, rfl, F, q⟩ := h
  refine ⟨_, (pss_cons (ps_asg (pe_ix (kIxL (K := K) rfl) (kFld (K := K) rfl (pv 0) rfl) (pe_un un_neg pe_int) (fun _ _ => rfl)) (kPTup (K := K) (n := 2) rfl rfl (pgs_cons (pg_name (i := 1) sc_Plan_parts.nd rfl (Or.inl rfl)) (pgs_cons (pg_name (i := 2) sc_Plan_parts.nd rfl (Or.inl rfl)) pgs_nil))))
    (pss_cons (ps_set (i := 3) sc_Plan_parts.nd rfl (Or.inl rfl) (pe_lst (pa_cons (pe_tup (pa_cons (pe_mt0 (pv 0) (cls_Plan S) (me_Plan_steps S) (ok_Plan_steps S) (hr.mono (by decide))) (pa_cons pe_str (pa_cons pe_int (pa_cons pe_int (pa_cons (pv 1) (pa_cons (pv 2) pa_nil))))))) pa_nil)))
    (pss_cons (ps_for PassesOwn.never rfl (pi_revR rfl (fr_reversed S) (prg_1 rfl (fr_range S) (pe_mt0 (pv 0) (cls_Plan S) (me_Plan_steps S) (ok_Plan_steps S) (hr.mono (by decide))))) (pg_name (i := 4) sc_Plan_parts.nd rfl (Or.inl rfl)) (pss_one (ps_expr (kBM (K := K) rfl PySem.F.plainAttrs_list PySem.F.slot_list_extend PySem.F.type_list_extend mt_extend (pv 3) (pa_cons (pe_mt (pv 0) (cls_Plan S) (me_Plan_step_parts S) (ok_Plan_step_parts S) (hr.mono (by decide)) (pa_cons (pv 4) pa_nil)) pa_nil)))))
    (pss_one (ps_ret (pv 3)))))), ?_⟩
  have wl := F.wlen
  have F0 := F
  obtain ⟨⟨dx, ra, ca, ta, hp, hr1, c⟩, z, ok⟩ := F0
  tm_at "go"
  refine gFldE hp (cls_Plan S) (na_Plan_corners S) rfl ?_
  tm_at "go"
  refine gIxL (SqL.of c.top) (at_last (by omega)) ?_
  refine gTp (SqT.of (c.it ws.length (by omega))) rfl ?_
  tm_at "go"
  refine gMeE hp rfl ?_
  tm_at "go"
  refine ⟨p, h, n, r, ws, rfl, F, ?_⟩
  tm_at "go"
  refine ⟨szL rfl, fun t ht => ?_⟩
  tm_at "go"
  refine ⟨szL rfl, fun D hD => ?_⟩
  generalize hg : upd _ D _ = H1
  obtain ⟨s0, e0⟩ := newF hg hD
  have l0 := LOf.one (α := Part) (o := pT) (x := ⟨ws.length, 0, 0, 0, (cnr (h, n) ws ws.length).1, (cnr (h, n) ws ws.length).2⟩) e0 (s0 _ _ upd_same)
  have hD0 : H D = none := (Same.new ht).free hD
  replace s0 := (Same.new ht).trans s0
  tm_at "go"
  refine gMeE (s0 _ _ hp) rfl ?_
  tm_at "go"
  refine ⟨p, h, n, r, ws, rfl, F.same s0, ?_⟩
  refine gRvN (n := ws.length) (by omega) ?_
  refine forIt (wRv0 (n := ws.length)) (fun i σ H' => Same H H' ∧ (∃ ta, LOf H' D ta (partsFrom (h, n) ws i) pT) ∧ ∃ v, σ = [some (.ref p), some (.int ((cnr (h, n) ws ws.length).1 : Int)), some (.int ((cnr (h, n) ws ws.length).2 : Int)), some (.ref D), v])
    ⟨s0, ⟨_, l0⟩, none, rfl⟩ (fun _ _ _ _ _ => trivial) ?_ ?_
  · rintro i x σ H2 H3 hi ⟨s1, ⟨tb, l1⟩, v, rfl⟩ ⟨rfl, rfl⟩
    tm_at "go"
    refine ⟨.inl ⟨rfl, _, SqL.of l1.top⟩, ?_⟩
    tm_at "go"
    refine gMeE (s1 _ _ hp) rfl ?_
    tm_at "go"
    refine ⟨p, h, n, r, ws, _, rfl, F.same s1, by omega, fun D2 H4 tc s2 l2 => ?_⟩
    tm_at "go"
    have hz : (partsFrom (h, n) ws (i + 1)).length ≤ 1000 := by have := parts_len (c := (h, n)) (ws := ws) (i + 1); omega
    rw [show partsFrom (h, n) ws (i + 1) = partsFrom (h, n) ws i ++ stepP (h, n) ws (ws.length - 1 - i) from rfl, List.length_append] at hz
    refine ⟨D, D2, _, _, rfl, rfl, s2 _ _ l1.top, l2.top, by rw [tab_len, tab_len]; exact line_le (by omega), ?_⟩
    refine ⟨(s1.trans s2).mut hD0, ⟨_, (l1.same s2).app l2 fun x => ⟨_, rfl⟩⟩, _, rfl⟩
  · rintro σ H2 ⟨s1, ⟨tb, l1⟩, v, rfl⟩
    tm_at "go"
    exact q _ _ _ s1 hD0 l1
theorem NewL.lof {α : Type} {H H' : Hp} {D : Addr} {n : Nat} {ta : Nat → Addr} {o : Nat → HO} {xs : List α} {u : α → HO} (N : NewL H H' D n ta o) (hl : xs.length = n) (h : ∀ i x, xs[i]? = some x → o i = u x) : LOf H' D ta xs u :=
  ⟨by rw [hl]; exact N.top, fun i x e => by rw [← h i x e]; exact N.it i (by rw [← hl]; exact (List.getElem?_eq_some_iff.mp e).1)⟩
theorem lof_app {α : Type} {H : Hp} {D E : Addr} {ta tb : Nat → Addr} {xs ys : List α} {o : α → HO} (r : LOf H D ta xs o) (r2 : LOf H E tb ys o) (ht : ∀ x, ∃ t, o x = .tup t) (hn : xs.length + ys.length ≤ 1000000) {Q : VK} (q : ∀ H', H' = upd H D (.lst (tab xs.length (fun i => .ref (ta i)) ++ tab ys.length fun i => .ref (tb i))) → LOf H' D (cat ta xs.length tb) (xs ++ ys) o → Q .non H') : rExtend (.ref D) [.ref E] H Q :=
  ⟨D, E, _, _, rfl, rfl, r.top, r2.top, by rw [tab_len, tab_len]; exact line_le hn, q _ rfl (r.app r2 ht)⟩
theorem ok_Plan_order (S : TX K mg) : OkF P w K mg base 3 (He.ma K (He.ga K "Plan") "order") (p_Plan_order K) := by
  refine okF (F_Plan_order S) sc_Plan_order (by tm_at "len") (fun _ _ _ _ _ _ us hl => match us, hl with | [_], _ => rfl) (fun cdv A outer s H vs Q E hr h => ?_)
  obtain ⟨p, h, n, r, ws, rfl, F, q⟩ := h
  refine ⟨_, (pss_cons (ps_set (i := 1) sc_Plan_order.nd rfl (Or.inl rfl) (pe_lst pa_nil))
    (pss_cons (ps_for PassesOwn.never rfl (kList (K := K) rfl (pe_mt0 (pv 0) (cls_Plan S) (me_Plan_parts S) (ok_Plan_parts S) (hr.mono (by decide)))) (kPTup (K := K) (n := 6) rfl rfl (pgs_cons (pg_name (i := 2) sc_Plan_order.nd rfl (Or.inl rfl)) (pgs_cons (pg_name (i := 3) sc_Plan_order.nd rfl (Or.inl rfl)) (pgs_cons (pg_name (i := 4) sc_Plan_order.nd rfl (Or.inr rfl)) (pgs_cons (pg_name (i := 5) sc_Plan_order.nd rfl (Or.inr rfl)) (pgs_cons (pg_name (i := 6) sc_Plan_order.nd rfl (Or.inl rfl)) (pgs_cons (pg_name (i := 7) sc_Plan_order.nd rfl (Or.inl rfl)) pgs_nil))))))) (pss_one (ps_for PassesOwn.never rfl (pi_range1 rfl (fr_range S) (pa_cons (pv 6) pa_nil)) (pg_name (i := 8) sc_Plan_order.nd rfl (Or.inr rfl)) (pss_one (ps_expr (kBM (K := K) rfl PySem.F.plainAttrs_list PySem.F.slot_list_extend PySem.F.type_list_extend mt_extend (pv 1) (pa_cons (pe_lc (own := [("x", 9)]) (g := gName 9) (tt := tYes) rfl sc_Plan_order.nd (pi_range1 rfl (fr_range S) (pa_cons (pv 7) pa_nil)) (blkOk_by (own := [("x", 9)]) (N := ["self", "found", "step", "word", "top", "left", "height", "width", "y", "x"]) (sc := defScope s_Plan_order) (by decide +kernel)) (fun _ _ _ _ _ => (pg_name (i := 9) sc_Plan_order.nd rfl (Or.inl rfl))) (fun _ _ _ _ _ => pts_nil) (fun _ _ _ _ _ => (pe_tup (pa_cons (pe_op op_add (pv 4) (pv 8)) (pa_cons (pe_op op_add (pv 5) (pv 9)) pa_nil))))) pa_nil)))))))
    (pss_one (ps_ret (pv 1))))), ?_⟩
  have wl := F.wlen
  have F0 := F
  obtain ⟨⟨dx, ra, ca, ta, hp, hr1, c⟩, z, ok⟩ := F0
  tm_at "go"
  refine ⟨szL rfl, fun D hD => ?_⟩
  generalize hg : upd _ _ _ = H1
  obtain ⟨s0, e0⟩ := newF hg hD
  tm_at "go"
  refine gMeE (s0 _ _ hp) rfl ?_
  tm_at "go"
  refine ⟨p, h, n, r, ws, rfl, F.same s0, fun PL H2 tp s2 np lp => ?_⟩
  have PD : PL ≠ D := (ne_of_none e0 np).symm
  refine gL1 (SqL.of lp.top) ?_
  refine forIt (wTab (m := (partsM (h, n) ws).length) (f := fun i => .ref (tp i))) (fun i σ H' => Same H H' ∧ LOf H' PL tp (partsM (h, n) ws) pT ∧ (∃ tb, LOf H' D tb (((partsM (h, n) ws).take i).flatMap Part.pl) cT) ∧ ∃ a1 a2 a3 a4 a5 a6 a7, σ = [some (.ref p), some (.ref D), a1, a2, a3, a4, a5, a6, a7, none])
    ⟨s0.trans s2, lp, ⟨fun _ => 0, LOf.nil (s2 _ _ e0)⟩, none, none, none, none, none, none, none, rfl⟩ (fun i σ H' _ z => SqL.of z.2.1.top) ?_ ?_
  · rintro i x σ H3 H4 hi ⟨s3, s4, ⟨tb, l1⟩, a1, a2, a3, a4, a5, a6, a7, rfl⟩ ⟨rfl, rfl⟩
    obtain ⟨pt, hpt⟩ : ∃ pt, (partsM (h, n) ws)[i]? = some pt := ⟨_, List.getElem?_eq_getElem hi⟩
    refine gTp (SqT.of (s4.it i pt hpt)) rfl ?_
    tm_at "go"
    have tot : ((partsM (h, n) ws).take i).flatMap Part.pl = ((partsM (h, n) ws).take i).flatMap Part.pl ++ pt.rows 0 := by simp [Part.rows]
    have bnd := fun y hy => ord_pre (c := (h, n)) (ws := ws) (y := y) hpt hy
    have mx := z.hw
    have mz := parts_le (c := (h, n)) (ws := ws) ws.length pt (List.mem_of_getElem? hpt)
    have zh2 := z.h2
    have zw2 := z.w2
    dsimp only at mz
    dsimp only at bnd
    rw [tot] at l1
    rw [take_flat hpt]
    refine gR1 ⟨by omega, by omega⟩ ?_
    rw [Int.toNat_natCast]
    refine forIt (wRange (m := pt.h)) (fun y σ H' => Same H H' ∧ LOf H' PL tp (partsM (h, n) ws) pT ∧ (∃ tb, LOf H' D tb (((partsM (h, n) ws).take i).flatMap Part.pl ++ pt.rows y) cT) ∧ ∃ a7, σ = [some (.ref p), some (.ref D), some (.int pt.s), some (.str (zS pt.z)), some (.int pt.t), some (.int pt.l), some (.int pt.h), some (.int pt.w), a7, none])
      ⟨s3, s4, ⟨tb, l1⟩, a7, rfl⟩ (fun _ _ _ _ _ => trivial) ?_ ?_
    · clear a1 a2 a3 a4 a5 a6 a7 l1 tb s3 s4
      rintro y x σ H5 H6 hy ⟨s3, s4, ⟨tb, l1⟩, a7, rfl⟩ ⟨rfl, rfl⟩
      tm_at "go"
      refine ⟨.inl ⟨rfl, _, SqL.of l1.top⟩, ?_⟩
      tm_at "go"
      refine gR1 ⟨by omega, by omega⟩ ?_
      rw [Int.toNat_natCast]
      intro D2 hD2
      refine lcIt (wRange (m := pt.w)) (fun j H' => ∃ tb, NewL H6 H' D2 j tb fun x => cT (pt.t + y, pt.l + x)) ⟨tb, NewL.nil hD2⟩ (fun _ _ _ _ => trivial) ?_ ?_
      · rintro j x H7 H8 hj ⟨tc, N⟩ ⟨rfl, rfl⟩
        tm_at "go"
        refine ⟨rfl, ?_⟩
        tm_at "go"
        refine ⟨szL rfl, fun t ht => ?_⟩
        refine ⟨_, get_new ht N.top, by rw [tab_len]; exact line_lt (by omega), _, N.push ht ?_ (Same.new ht)⟩
        rw [upd_same]
        rfl
      · rintro H7 ⟨tc, N⟩
        tm_at "go"
        have b2 := bnd y hy
        have l2 : LOf H7 D2 tc (rowPl (pt.t + y) pt.l pt.w) cT := N.lof (by simp [rowPl]) fun k x e => by
          unfold rowPl at e
          have hk : k < pt.w := by simpa using (List.getElem?_eq_some_iff.mp e).1
          rw [List.getElem?_map, List.getElem?_range hk] at e
          cases e
          rfl
        refine lof_app (l1.same N.same) l2 (fun x => ⟨_, rfl⟩) (by simp only [rowPl, List.length_map, List.length_range]; omega) fun H8 h8 l3 => ?_
        rw [rows_succ, ← List.append_assoc]
        subst h8
        exact ⟨(s3.trans N.same).mut hD, (s4.same N.same).mut (fun x => ⟨_, rfl⟩) (N.same _ _ l1.top) PD, ⟨_, l3⟩, _, rfl⟩
    · rintro σ H5 ⟨s3, s4, ⟨tb, l1⟩, a7, rfl⟩
      exact ⟨s3, s4, ⟨tb, l1⟩, _, _, _, _, _, _, _, rfl⟩
  · rintro σ H3 ⟨s3, s4, ⟨tb, l1⟩, a1, a2, a3, a4, a5, a6, a7, rfl⟩
    tm_at "go"
    rw [List.take_length] at l1
    exact q _ _ _ s3 hD l1
end
end Kp
/-! xs[::2], xs[1::2] -/
namespace Kp
open PySem PySem.Spec PyProof.Rows L2
def pickV {α : Type} (is : List Nat) (xs : List α) : List α := is.filterMap fun i => xs[i]?
theorem vals_pick {xs : List V} {us : List Value} (r : Vals xs us) : ∀ is : List Nat, Vals (pickV is xs) (pickV is us)
  | [] => .nil
  | i :: is => by
    have t := vals_pick r is
    unfold pickV at t ⊢
    have hl := r.length
    by_cases h : i < xs.length
    · have e1 : xs[i]? = some xs[i] := List.getElem?_eq_getElem h
      obtain ⟨u, e2, ru⟩ := r.get e1
      rw [List.filterMap_cons_some e1, List.filterMap_cons_some e2]
      exact .cons ru t
    · have e1 : xs[i]? = none := List.getElem?_eq_none_iff.mpr (by omega)
      have e2 : us[i]? = none := List.getElem?_eq_none_iff.mpr (by omega)
      rw [List.filterMap_cons_none e1, List.filterMap_cons_none e2]
      exact t
def st2 (a n : Nat) : List Nat := (List.range ((n + 1 - a) / 2)).map fun k => a + 2 * k
theorem st2_range {a n : Nat} (h : a ≤ n) : sliceRange (a : Int) (n : Int) 2 = st2 a n := by
  unfold sliceRange st2
  have h2 : (2 : Int) > 0 := by decide
  simp only [h2, if_true]
  by_cases hl : (a : Int) < (n : Int)
  · rw [if_pos hl, show ((n : Int) - (a : Int) + 2 - 1) / 2 = (((n + 1 - a) / 2 : Nat) : Int) by omega, Int.toNat_natCast]
    apply List.map_congr_left
    intro k _
    omega
  · rw [if_neg hl, show (n + 1 - a) / 2 = 0 by omega]
    rfl
theorem pick2 {items : Array Value} {lo : Option Int} {a : Nat} (hl : lo = none ∧ a = 0 ∨ lo = some (a : Int)) (h : a ≤ items.size) : slicePick items lo none (some 2) = (pickV (st2 a items.size) items.toList).toArray := by
  unfold slicePick pickV
  have e : sliceBounds lo none (some 2) items.size = ((a : Int), (items.size : Int), 2) := by
    rcases hl with ⟨rfl, rfl⟩ | rfl
    · rfl
    · unfold sliceBounds
      simp only [Option.getD_some, show (2 : Int) > 0 by decide, if_true]
      have h1 : ¬ ((a : Int) < 0) := by omega
      simp only [h1, if_false]
      refine Prod.ext ?_ rfl
      show max 0 (min (a : Int) (items.size : Int)) = (a : Int)
      omega
  rw [e]
  show ((sliceRange (a : Int) (items.size : Int) 2).filterMap (items[·]?)).toArray = _
  rw [st2_range h]
  simp only [Array.getElem?_toList]
theorem pick_le {α : Type} (is : List Nat) (xs : List α) : (pickV is xs).length ≤ is.length := List.length_filterMap_le _ _
theorem st2_len {a n : Nat} : (st2 a n).length = (n + 1 - a) / 2 := by unfold st2; rw [List.length_map, List.length_range]
def tStep (K : PySem.W.Frag) (te : TE) (tl : TO) : TE := fun σ H Q => te σ H fun x H1 => tl σ H1 fun l H2 => ∃ (p : Addr) (xs : List V) (a : Nat), x = .ref p ∧ SqL K H2 p xs ∧ (l = none ∧ a = 0 ∨ l = some (a : Int)) ∧ a ≤ xs.length ∧ ∀ q, H2 q = none → Q (.ref q) (upd H2 q (.lst (pickV (st2 a xs.length) xs)))
section
variable {X : Cx}
theorem pe_step {K : PySem.W.Frag} {e : Expr} {lo : Option Expr} {te : TE} {tl : TO} {k : Nat} {p1 p3 pos : Pos} (hK : X.K = K) (he : PE X e te) (hl : PO X lo tl) : PE X (.Subscript e (.Slice lo none (some (.Constant (.int 2) k p1)) p3) pos) (tStep K te tl) := by
  subst hK
  refine ⟨fun pins s σ H Q I h => ?_⟩
  refine Subscript_ (thn (he.run pins s σ H _ I h) fun v s1 ⟨x, H1, I1, r1, q1⟩ => ?_)
  have hst : PO X (some (.Constant (.int 2) k p1)) (tPart (tC (.int 2))) := po_some pe_int
  refine wpAny_Slice (thn (hl.run pins s1 σ H1 _ I1 q1) fun vl s2 ⟨l, H2, I2, pl, q2⟩ => ?_)
  refine thn (po_none.run pins s2 σ H2 (fun o H3 => o = none ∧ H3 = H2) I2 ⟨rfl, rfl⟩) fun vu s3 ⟨u, H3, I3, pu, eu, e3⟩ => ?_
  subst eu e3
  refine thn (hst.run pins s3 σ H3 (fun o H4 => o = some 2 ∧ H4 = H3) I3 ⟨2, rfl, rfl, rfl⟩) fun vs s4 ⟨o, H4, I4, ps, eo, e4⟩ => ?_
  subst eo e4
  obtain ⟨a, xs, b, ex, hx, hb, hbl, q⟩ := q2
  subst ex
  cases r1
  have I5 : Inv X pins σ H4 { s4 with heap := s4.heap.push { cls := .type "slice", data := .fields #[vl, vu, vs] } } := I4.kept (t' := s4.toks) fun b ob q => Heap.get?_push_of_some _ q
  obtain ⟨its, r, ht, hz⟩ := I5.list hx
  have hlen := r.length
  show wpAny (model X.prog X.w) X.A (subscriptTail e (.Slice lo none (some (.Constant (.int 2) k p1)) p3) (.ref a) (.ref s4.heap.objs.size)) (EP X pins σ Q) X.xe { s4 with heap := s4.heap.push { cls := .type "slice", data := .fields #[vl, vu, vs] } }
  refine tail_any (ops := [.ref a, .ref s4.heap.objs.size]) ht.isList.typeIs (PySem.slot_list_getitem.lookup) ?_ (by with_unfolding_all rfl)
  refine wpAny_getItem_list_slice ht.isList (Heap.IsSliceOf.new _ vl vu vs) pl pu ps (by decide) ?_ (by rw [List.size_toArray]; omega)
  rw [pick2 hb (by rw [List.size_toArray]; omega), show its.toArray.size = xs.length by rw [List.size_toArray]; exact hlen.symm]
  refine ⟨.ref _, _, I5.laid (t' := s4.toks) (o := .lst (pickV (st2 b xs.length) xs)) (fun b ob q => Heap.get?_push_of_some _ q) (Nat.le_refl _) ?_, rfl, q _ (I5.hok.fresh (Nat.le_refl _))⟩
  exact ⟨by have h1 := pick_le (st2 b xs.length) xs; rw [st2_len] at h1; omega, _, 0, vals_pick r _, Heap.get?_push_size _ rfl⟩
end
theorem gStp {K : PySem.W.Frag} {te : TE} {tl : TO} {σ : L2.St} {H : Hp} {Q : VK} (h : te σ H fun x H1 => tl σ H1 fun l H2 => ∃ (p : Addr) (xs : List V) (a : Nat), x = .ref p ∧ SqL K H2 p xs ∧ (l = none ∧ a = 0 ∨ l = some (a : Int)) ∧ a ≤ xs.length ∧ ∀ q, H2 q = none → Q (.ref q) (upd H2 q (.lst (pickV (st2 a xs.length) xs)))) : tStep K te tl σ H Q := h
theorem pick_tab {a n : Nat} {f : Nat → V} (h : a ≤ n) : pickV (st2 a n) (tab n f) = tab ((n + 1 - a) / 2) fun k => f (a + 2 * k) := by
  unfold pickV st2 tab
  rw [List.filterMap_map]
  have e : ∀ m, m ≤ (n + 1 - a) / 2 → (List.range m).filterMap ((fun i => (List.map f (List.range n))[i]?) ∘ fun k => a + 2 * k) = (List.range m).map fun k => f (a + 2 * k) := by
    intro m
    induction m with
    | zero => intro _; rfl
    | succ m ih =>
      intro hm
      rw [List.range_succ, List.filterMap_append, ih (by omega), List.map_append]
      congr 1
      have e2 : (List.map f (List.range n))[a + 2 * m]? = some (f (a + 2 * m)) := by rw [List.getElem?_map, List.getElem?_range (by omega)]; rfl
      exact List.filterMap_cons_some (f := (fun i => (List.map f (List.range n))[i]?) ∘ fun k => a + 2 * k) (l := []) e2
  exact e _ (Nat.le_refl _)
end Kp
local macro_rules | `(tactic| tm_at "go") => `(tactic| repeat (first | (with_reducible first | refine Kp.gSeq ?_ | refine Kp.gAsg ?_ | refine Kp.gNm ?_ | refine Kp.gOp ?_ | refine Kp.gC ?_ | refine Kp.gI0 ?_ | refine Kp.gCons0 ?_ | refine Kp.gNil0 ?_ | refine Kp.gTest ?_ | refine Kp.gBl ?_ | refine Kp.gIfS ?_ | refine Kp.gB ?_ | refine Kp.gRet ?_ | refine Kp.gNext ?_ | refine Kp.gFn ?_ | refine Kp.gMeth ?_ | refine Kp.gMk ?_ | refine Kp.gCB ?_ | refine Kp.gFld ?_ | refine Kp.gNot ?_ | refine Kp.gOr ?_ | refine Kp.gAnd ?_ | refine Kp.gChain ?_ | refine Kp.gUn ?_ | refine Kp.gU ?_ | refine Kp.gTupE ?_ | refine Kp.gLstE ?_ | refine Kp.gDrop ?_ | refine Kp.gBM ?_ | refine Kp.gSl ?_ | refine Kp.gNoP ?_ | refine Kp.gPart ?_ | refine Kp.gPartE ?_ | refine Kp.gFor ?_ | refine Kp.gLc ?_ | refine Kp.gYes ?_ | refine Kp.gSFld ?_ | refine Kp.gSb ?_ | refine Kp.gCs ?_ | refine Kp.gNl ?_ | refine Kp.gIL ?_ | refine Kp.gITup ?_ | refine Kp.gIR1 ?_ | refine Kp.gIR2 ?_ | refine Kp.gIE ?_ | refine Kp.gIZ ?_ | refine Kp.gIS ?_ | refine Kp.gAndV ?_ | refine Kp.gOrV ?_ | refine Kp.gNotV ?_ | refine Kp.gS1 ?_ | refine Kp.gDyn ?_ | refine Kp.gStp ?_ | refine Kp.gRv ?_ | refine Kp.gRg1 ?_ | refine Kp.gRg2 ?_ | refine Kp.gD2 ?_ | refine Kp.gD4 ?_ | refine Kp.gM2 ?_ | refine Kp.gBreak ?_ | refine Kp.gCont ?_ | refine Kp.gRetN ?_) | ((with_reducible apply Kp.gVar); (focus exact rfl)) | ((with_reducible refine Kp.gIfT ?_ ?_); (focus exact rfl)) | ((with_reducible refine Kp.gIfF ?_ ?_); (focus exact rfl)) | ((with_reducible refine Kp.gEq ?_ ?_); (focus exact rfl)) | ((with_reducible refine Kp.gNe ?_ ?_); (focus exact rfl)) | ((with_reducible apply Kp.gIsi); (focus (first | exact Kp.Isi.ii | exact Kp.Isi.ib | exact Kp.Isi.ss | exact Kp.Isi.ll (by assumption) | exact Kp.Isi.tt (by assumption))))))
local macro_rules | `(tactic| tm_at "gi") => `(tactic| repeat (first | (with_reducible first | refine Kp.gAsg ?_ | refine Kp.gNm ?_ | refine Kp.gOp ?_ | refine Kp.gC ?_ | refine Kp.gI0 ?_ | refine Kp.gTest ?_ | refine Kp.gBl ?_ | refine Kp.gIfS ?_ | refine Kp.gAnd ?_ | refine Kp.gRet ?_ | refine Kp.gNext ?_ | refine Kp.gMeth ?_ | refine Kp.gFld ?_ | refine Kp.gCons0 ?_ | refine Kp.gNil0 ?_) | ((with_reducible apply Kp.gVar); (focus exact rfl)) | ((with_reducible refine Kp.gIfT ?_ ?_); (focus exact rfl)) | ((with_reducible refine Kp.gIfF ?_ ?_); (focus exact rfl)) | ((with_reducible refine Kp.gEq ?_ ?_); (focus exact rfl))))
/-! rows' rules -/
namespace Kp
open PySem PySem.Spec L2
theorem neg1 : (-1 : Int) = -1 := rfl
/-- a new list of ints at D, its first i told -/
def AccI (H : Hp) (D : Addr) (i : Nat) (g : Nat → Int) (H' : Hp) : Prop := Same H H' ∧ H' D = some (.lst (irow i g))
section
variable {H H' : Hp} {D : Addr} {i n : Nat} {g f : Nat → Int} {v : V}
theorem AccI.nil (hD : H D = none) : AccI H D 0 g (upd H D (.lst [])) := ⟨Same.new hD, by rw [upd_same]; rfl⟩
theorem AccI.push (z : AccI H D i g H') (hD : H D = none) (h : v = .int (g i)) : AccI H D (i + 1) g (upd H' D (.lst (irow i g ++ [v]))) :=
  ⟨z.1.mut hD, by rw [upd_same]; unfold irow; rw [tab_push h]⟩
theorem AccI.push2 {a b : V} (z : AccI H D (2 * i) g H') (hD : H D = none) (h : a = .int (g (2 * i))) (h2 : b = .int (g (2 * i + 1))) : AccI H D (2 * (i + 1)) g (upd H' D (.lst (irow (2 * i) g ++ [a, b]))) :=
  ⟨z.1.mut hD, by
    rw [upd_same, show irow (2 * i) g ++ [a, b] = (irow (2 * i) g ++ [a]) ++ [b] by rw [List.append_assoc]; rfl]
    unfold irow
    rw [tab_push h, tab_push h2]
    rfl⟩
theorem AccI.trans {H0 : Hp} (s : Same H0 H) (z : AccI H D i g H') : AccI H0 D i g H' := ⟨s.trans z.1, z.2⟩
theorem ir_lt (h : n ≤ 64) (hi : i < n) : (irow i g).length < sizeLine := by unfold irow; rw [tab_len]; exact line_lt (by omega)
theorem ir_len : (irow n g).length = n := tab_len
theorem ir_congr (h : ∀ i, i < n → f i = g i) : irow n f = irow n g := tab_congr fun i q => by rw [h i q]
end
theorem AccI.step {H H1 H2 : Hp} {D : Addr} {i : Nat} {g : Nat → Int} (z : AccI H D i g H1) (s : Same H1 H2) : AccI H D i g H2 := ⟨z.1.trans s, s _ _ z.2⟩
def YP (f g : Nat → V) : Nat → Hp → V → Hp → Prop := fun i H v H' => ∃ T, v = .ref T ∧ H T = none ∧ Same H H' ∧ H' T = some (.tup [f i, g i])
theorem wZip2 {K : PySem.W.Frag} {a b : Addr} {n k m : Nat} {f g : Nat → V} (hm : m = min n k) : Walk (Itz K a b) m (fun H => SqL K H a (tab n f) ∧ SqL K H b (tab k g)) (YP f g) := by
  have w := walk_zip (K := K) (a := a) (b := b) (xs := tab n f) (ys := tab k g) (n := m) (by rw [tab_len, tab_len]; exact hm)
  refine w.mono (fun _ h => h) fun i H v H' hi _ y => ?_
  obtain ⟨T, x, y, h1, h2, h3, h4, h5⟩ := y
  dsimp only at h4 h5
  rw [tab_get (by omega)] at h4 h5
  cases h4
  cases h5
  exact ⟨T, h1, h2, by rw [h3]; exact Same.new h2, by rw [h3, upd_same]⟩
theorem wEnum2 {K : PySem.W.Frag} {a : Addr} {n : Nat} {f : Nat → V} : Walk (Ite K a) n (fun H => SqL K H a (tab n f)) (YP (fun i => .int (i : Nat)) f) := by
  have w := walk_enum (K := K) (a := a) (xs := tab n f)
  rw [tab_len] at w
  refine w.mono (fun _ h => h) fun i H v H' hi _ y => ?_
  obtain ⟨T, x, y, h1, h2, h3, h4, h5⟩ := y
  dsimp only at h4 h5
  rw [tab_get (by omega)] at h5
  cases h4
  cases h5
  exact ⟨T, h1, h2, by rw [h3]; exact Same.new h2, by rw [h3, upd_same]⟩
def p_pairs_of : Pm := fun vs H Q => ∃ (a : Addr) (n : Nat) (f : Nat → Int), vs = [.ref a] ∧ H a = some (.lst (irow n f)) ∧ n ≤ 64 ∧ ∀ D ta H', NewL H H' D (n / 2) ta (fun k => .tup [.int (f (2 * k)), .int (f (2 * k + 1))]) → Q (.ref D) H'
def p_half_sums : Pm := fun vs H Q => ∃ (a : Addr) (n : Nat) (f : Nat → Int), vs = [.ref a] ∧ H a = some (.lst (irow n f)) ∧ 2 ≤ n ∧ n ≤ 64 ∧ ∀ D H', Same H H' → H D = none → H' D = some (.lst (irow (hf n) (hS n f))) → Q (.ref D) H'
def p_nearest : Pm := fun vs H Q => ∃ (a : Addr) (n : Nat) (f : Nat → Int) (k : Int), vs = [.ref a, .int k] ∧ H a = some (.lst (irow n f)) ∧ 1 ≤ n ∧ n ≤ 64 ∧ Q (.int (nr n f k)) H
def p_slopes : Pm := fun vs H Q => ∃ (a : Addr) (n m : Nat) (f : Nat → Int), vs = [.ref a, .int m] ∧ H a = some (.lst (irow n f)) ∧ m ≤ n ∧ n ≤ 64 ∧ ∀ D H', Same H H' → H D = none → H' D = some (.lst (irow m (sl n f))) → Q (.ref D) H'
def p_parted (r : Rl) : Pm := fun vs H Q => ∃ (x : V) (a : Addr) (n : Nat) (f : Nat → Int), vs = [x, .ref a] ∧ H a = some (.lst (irow n f)) ∧ 2 ≤ n ∧ n ≤ 64 ∧
  ∀ t b c H', Same H H' → H' t = some (.tup [.ref b, .ref c]) → H' b = some (.lst (irow (hf n) (pS r n f))) → H' c = some (.lst (irow (n / 2) (pD r n f))) → Q (.ref t) H'
def p_two (j : Nat → (Nat → Int) → (Nat → Int) → Nat → Int) : Pm := fun vs H Q => ∃ (a b : Addr) (n : Nat) (s d : Nat → Int), vs = [.ref a, .ref b] ∧ H a = some (.lst (irow (hf n) s)) ∧ H b = some (.lst (irow (n / 2) d)) ∧ 2 ≤ n ∧ n ≤ 64 ∧
  ∀ D H', Same H H' → H D = none → H' D = some (.lst (irow n (j n s d))) → Q (.ref D) H'
def p_three (j : Nat → (Nat → Int) → (Nat → Int) → Nat → Int) : Pm := fun vs H Q => ∃ (x : V) (a b : Addr) (n : Nat) (s d : Nat → Int), vs = [x, .ref a, .ref b] ∧ H a = some (.lst (irow (hf n) s)) ∧ H b = some (.lst (irow (n / 2) d)) ∧ 2 ≤ n ∧ n ≤ 64 ∧
  ∀ D H', Same H H' → H D = none → H' D = some (.lst (irow n (j n s d))) → Q (.ref D) H'
section
variable {P : Program} {w : World} {K : PySem.W.Frag} {mg : Str → Option Value} {base : Heap}
theorem ok_pairs_of (S : TX K mg) : OkF P w K mg base 1 (He.ga K "pairs_of") (p_pairs_of) := by
  refine okF (F_pairs_of S) sc_pairs_of (by tm_at "len") (fun _ _ _ _ _ _ us hl => match us, hl with | [_], _ => rfl) (fun cdv A outer s H vs Q E hr h => ?_)
  obtain ⟨a, n, f, rfl, ha, hn, q⟩ := h
  refine ⟨_, (pss_one (ps_ret (pe_lc (own := [("k", 1)]) (g := gName 1) (tt := tYes) rfl sc_pairs_of.nd (pi_range1 rfl (fr_range S) (pa_cons (pe_op op_fdiv (pe_callB (kLen (K := K) rfl) rfl (fr_len S) bt_len (pa_cons (pv 0) pa_nil)) pe_int) pa_nil)) (blkOk_by (own := [("k", 1)]) (N := ["row", "k"]) (sc := defScope s_pairs_of) (by decide +kernel)) (fun _ _ _ _ _ => (pg_name (i := 1) sc_pairs_of.nd rfl (Or.inl rfl))) (fun _ _ _ _ _ => pts_nil) (fun _ _ _ _ _ => (pe_tup (pa_cons (pe_ix (kIxL (K := K) rfl) (pv 0) (pe_op op_mul pe_int (pv 1)) (fun _ _ => rfl)) (pa_cons (pe_ix (kIxL (K := K) rfl) (pv 0) (pe_op op_add (pe_op op_mul pe_int (pv 1)) pe_int) (fun _ _ => rfl)) pa_nil))))))), ?_⟩
  tm_at "go"
  refine ⟨_, n, rfl, .inl ⟨_, SqL.of ha, tab_len.symm⟩, ?_⟩
  tm_at "go"
  rw [show ((n : Int) / 2) = ((n / 2 : Nat) : Int) by omega]
  refine gR1 (by omega) ?_
  rw [Int.toNat_natCast]
  intro D hD
  refine lcIt (wRange (m := n / 2)) (fun i H' => ∃ ta, NewL H H' D i ta fun k => .tup [.int (f (2 * k)), .int (f (2 * k + 1))]) ⟨fun _ => 0, NewL.nil hD⟩ (fun _ _ _ _ => trivial) ?_ ?_
  · rintro i x H1 H2 hi ⟨ta, N⟩ ⟨rfl, rfl⟩
    tm_at "go"
    refine ⟨rfl, ?_⟩
    tm_at "go"
    refine gIxL (SqL.of (N.same _ _ ha)) (at_tabI (i := 2 * i) (by omega) (by omega)) ?_
    tm_at "go"
    refine gIxL (SqL.of (N.same _ _ ha)) (at_tabI (i := 2 * i + 1) (by omega) (by omega)) ?_
    tm_at "go"
    refine ⟨szL rfl, fun t ht => ?_⟩
    exact ⟨_, get_new ht N.top, by rw [tab_len]; exact line_lt (by omega), _, N.push ht upd_same (Same.new ht)⟩
  · rintro H1 ⟨ta, N⟩
    exact q _ _ _ N
theorem ok_half_sums (S : TX K mg) : OkF P w K mg base 2 (He.ga K "half_sums") (p_half_sums) := by
  refine okF (F_half_sums S) sc_half_sums (by tm_at "len") (fun _ _ _ _ _ _ us hl => match us, hl with | [_], _ => rfl) (fun cdv A outer s H vs Q E hr h => ?_)
  obtain ⟨a, n, f, rfl, ha, h2, hn, q⟩ := h
  refine ⟨_, (pss_cons (ps_setLc (i := 1) (own := [("one", 2), ("other", 3)]) (g := gTup K 2 (gCons (gName 2) (gCons (gName 3) gNil))) (tt := tYes)  rfl sc_half_sums.nd rfl rfl (sw_true rfl rfl rfl (by decide +kernel)) (kList (K := K) rfl (pe_f (ok_pairs_of S) (hr.mono (by decide)) rfl (glo_pairs_of S) (pa_cons (pv 0) pa_nil))) (blkOk_by (own := [("one", 2), ("other", 3)]) (N := ["row", "sums", "one", "other"]) (sc := defScope s_half_sums) (by decide +kernel)) (fun _ _ _ _ _ => (kPTup (K := K) (n := 2) rfl rfl (pgs_cons (pg_name (i := 2) sc_half_sums.nd rfl (Or.inl rfl)) (pgs_cons (pg_name (i := 3) sc_half_sums.nd rfl (Or.inl rfl)) pgs_nil)))) (fun _ _ _ _ _ => pts_nil) (fun _ _ _ _ _ => (pe_op op_fdiv (pe_op op_add (pv 2) (pv 3)) pe_int)))
    (pss_cons (ps_if (pt_cmpR op_eq (pe_op op_and (pe_callB (kLen (K := K) rfl) rfl (fr_len S) bt_len (pa_cons (pv 0) pa_nil)) pe_int) pe_int (nomark _)) (pss_one (ps_expr (kBM (K := K) rfl PySem.F.plainAttrs_list PySem.F.slot_list_append PySem.F.type_list_append mt_append (pv 1) (pa_cons (pe_ix (kIxL (K := K) rfl) (pv 0) (pe_un un_neg pe_int) (fun _ _ => rfl)) pa_nil)))) pss_nil)
    (pss_one (ps_ret (pv 1))))), ?_⟩
  tm_at "go"
  refine ⟨a, n, f, rfl, ha, hn, fun L ta H1 N => ?_⟩
  refine gL1 (SqL.of N.top) ?_
  intro D hD
  refine lcIt (wTab (m := n / 2) (f := fun k => .ref (ta k))) (fun i H' => AccI H1 D i (hS n f) H') (AccI.nil hD) (fun i H' _ z => SqL.of (z.1 _ _ N.top)) ?_ ?_
  · rintro i x H2 H3 hi z ⟨rfl, rfl⟩
    refine gTp (SqT.of (z.1 _ _ (N.it i hi))) rfl ?_
    tm_at "go"
    refine ⟨rfl, ?_⟩
    tm_at "go"
    exact ⟨_, z.2, ir_lt hn (by omega), z.push hD (by unfold hS; rw [if_pos hi])⟩
  · rintro H2 z
    have ha2 := z.1 _ _ (N.same _ _ ha)
    have hD0 := N.same.free hD
    tm_at "go"
    refine ⟨_, n, rfl, .inl ⟨_, SqL.of ha2, tab_len.symm⟩, ?_⟩
    tm_at "go"
    rw [PyProof.Rows.bitAnd_m1]
    by_cases ho : n % 2 = 1
    · refine gIfT (decide_eq_true (congrArg V.int (by omega))) ?_
      tm_at "go"
      refine ⟨.inl ⟨rfl, _, SqL.of z.2⟩, ?_⟩
      tm_at "go"
      refine gIxL (SqL.of ha2) (at_last (by omega)) ?_
      tm_at "go"
      refine ⟨D, _, _, rfl, rfl, z.2, ir_lt hn (by omega), ?_⟩
      have z2 := z.push hD (v := .int (f (n - 1))) (by unfold hS; rw [if_neg (by omega)])
      rw [show n / 2 + 1 = hf n by unfold hf; omega] at z2
      tm_at "go"
      exact q _ _ (N.same.trans z2.1) hD0 z2.2
    · refine gIfF (decide_eq_false (fun e => by injection e with e; omega)) ?_
      tm_at "go"
      rw [show n / 2 = hf n by unfold hf; omega] at z
      exact q _ _ (N.same.trans z.1) hD0 z.2
theorem ok_nearest (S : TX K mg) : OkF P w K mg base 1 (He.ga K "nearest") (p_nearest) := by
  refine okF (F_nearest S) sc_nearest (by tm_at "len") (fun _ _ _ _ _ _ us hl => match us, hl with | [_, _], _ => rfl) (fun cdv A outer s H vs Q E hr h => ?_)
  obtain ⟨a, n, f, k, rfl, ha, h1, hn, q⟩ := h
  refine ⟨_, (pss_one (ps_ret (pe_ix (kIxL (K := K) rfl) (pv 0) (pe_callB (call_max2 rfl) rfl (fr_max S) bt_max (pa_cons pe_int (pa_cons (pe_callB (call_min2 rfl) rfl (fr_min S) bt_min (pa_cons (pv 1) (pa_cons (pe_op op_sub (pe_callB (kLen (K := K) rfl) rfl (fr_len S) bt_len (pa_cons (pv 0) pa_nil)) pe_int) pa_nil))) pa_nil))) (fun _ _ => rfl)))), ?_⟩
  tm_at "go"
  refine ⟨_, n, rfl, .inl ⟨_, SqL.of ha, tab_len.symm⟩, ?_⟩
  tm_at "go"
  refine ⟨_, _, rfl, ?_⟩
  tm_at "go"
  refine ⟨_, _, rfl, ?_⟩
  have hm : ∃ j : Nat, (if (if (n : Int) - 1 < k then (n : Int) - 1 else k) > 0 then (if (n : Int) - 1 < k then (n : Int) - 1 else k) else 0) = (j : Int) ∧ j < n ∧ nr n f k = f j := by
    refine ⟨(max 0 (min k ((n : Int) - 1))).toNat, ?_, ?_, rfl⟩
    · split <;> split at * <;> omega
    · omega
  obtain ⟨j, e1, e2, e3⟩ := hm
  rw [e3] at q
  exact gIxL (SqL.of ha) (at_tabI e1 e2) q
theorem ok_slopes (S : TX K mg) : OkF P w K mg base 1 (He.ga K "slopes") (p_slopes) := by
  refine okF (F_slopes S) sc_slopes (by tm_at "len") (fun _ _ _ _ _ _ us hl => match us, hl with | [_, _], _ => rfl) (fun cdv A outer s H vs Q E hr h => ?_)
  obtain ⟨a, n, m, f, rfl, ha, h1, hn, q⟩ := h
  refine ⟨_, (pss_cons (ps_set (i := 2) sc_slopes.nd rfl (Or.inl rfl) (pe_lst pa_nil))
    (pss_cons (ps_for PassesOwn.never rfl (pi_range1 rfl (fr_range S) (pa_cons (pv 1) pa_nil)) (pg_name (i := 3) sc_slopes.nd rfl (Or.inl rfl)) (pss_cons (ps_set (i := 4) sc_slopes.nd rfl (Or.inl rfl) (pe_ix (kIxL (K := K) rfl) (pv 0) (pv 3) (fun _ _ => rfl)))
    (pss_cons (ps_if (pt_cmpR op_gt (pv 3) pe_int (nomark _)) (pss_one (ps_set (i := 4) sc_slopes.nd rfl (Or.inl rfl) (pe_ix (kIxL (K := K) rfl) (pv 0) (pe_op op_sub (pv 3) pe_int) (fun _ _ => rfl)))) pss_nil)
    (pss_cons (ps_set (i := 5) sc_slopes.nd rfl (Or.inl rfl) (pe_ix (kIxL (K := K) rfl) (pv 0) (pv 3) (fun _ _ => rfl)))
    (pss_cons (ps_if (pt_cmpR op_lt (pe_op op_add (pv 3) pe_int) (pe_callB (kLen (K := K) rfl) rfl (fr_len S) bt_len (pa_cons (pv 0) pa_nil)) (nomark _)) (pss_one (ps_set (i := 5) sc_slopes.nd rfl (Or.inl rfl) (pe_ix (kIxL (K := K) rfl) (pv 0) (pe_op op_add (pv 3) pe_int) (fun _ _ => rfl)))) pss_nil)
    (pss_one (ps_expr (kBM (K := K) rfl PySem.F.plainAttrs_list PySem.F.slot_list_append PySem.F.type_list_append mt_append (pv 2) (pa_cons (pe_op op_fdiv (pe_op op_add (pe_op op_sub (pv 4) (pv 5)) pe_int) pe_int) pa_nil)))))))))
    (pss_one (ps_ret (pv 2))))), ?_⟩
  tm_at "go"
  refine ⟨szL rfl, fun D hD => ?_⟩
  tm_at "go"
  refine gR1 (by omega) ?_
  rw [Int.toNat_natCast]
  refine forIt (wRange (m := m)) (fun i σ H' => AccI H D i (sl n f) H' ∧ ∃ v1 v2 v3, σ = [some (.ref a), some (.int m), some (.ref D), v1, v2, v3]) ⟨AccI.nil hD, none, none, none, rfl⟩ (fun _ _ _ _ _ => trivial) ?_ ?_
  · rintro i x σ H1 H2 hi ⟨z, v1, v2, v3, rfl⟩ ⟨rfl, rfl⟩
    have ha2 := z.1 _ _ ha
    tm_at "go"
    refine gIxL (SqL.of ha2) (at_tab (by omega)) ?_
    tm_at "go"
    have fin : ∀ u v : Int, u = (if 0 < i then f (i - 1) else f i) → v = (if i + 1 < n then f (i + 1) else f i) → AccI H D (i + 1) (sl n f) (upd H2 D (.lst (irow i (sl n f) ++ [.int ((u - v + 2) / 4)]))) :=
      fun u v eu ev => z.push hD (by rw [eu, ev]; rfl)
    by_cases h0 : 0 < i
    · refine gIfT (decide_eq_true (by omega)) ?_
      tm_at "go"
      refine gIxL (SqL.of ha2) (at_tabI (i := i - 1) (by omega) (by omega)) ?_
      tm_at "go"
      refine gIxL (SqL.of ha2) (at_tab (by omega)) ?_
      tm_at "go"
      refine ⟨_, n, rfl, .inl ⟨_, SqL.of ha2, tab_len.symm⟩, ?_⟩
      tm_at "go"
      by_cases h2 : i + 1 < n
      · refine gIfT (decide_eq_true (by omega)) ?_
        tm_at "go"
        refine gIxL (SqL.of ha2) (at_tabI (i := i + 1) (by omega) (by omega)) ?_
        tm_at "go"
        refine ⟨.inl ⟨rfl, _, SqL.of z.2⟩, ?_⟩
        tm_at "go"
        exact ⟨D, _, _, rfl, rfl, z.2, ir_lt hn (by omega), fin _ _ (by rw [if_pos h0]) (by rw [if_pos h2]), _, _, _, rfl⟩
      · refine gIfF (decide_eq_false (by omega)) ?_
        tm_at "go"
        refine ⟨.inl ⟨rfl, _, SqL.of z.2⟩, ?_⟩
        tm_at "go"
        exact ⟨D, _, _, rfl, rfl, z.2, ir_lt hn (by omega), fin _ _ (by rw [if_pos h0]) (by rw [if_neg h2]), _, _, _, rfl⟩
    · refine gIfF (decide_eq_false (by omega)) ?_
      tm_at "go"
      refine gIxL (SqL.of ha2) (at_tab (by omega)) ?_
      tm_at "go"
      refine ⟨_, n, rfl, .inl ⟨_, SqL.of ha2, tab_len.symm⟩, ?_⟩
      tm_at "go"
      by_cases h2 : i + 1 < n
      · refine gIfT (decide_eq_true (by omega)) ?_
        tm_at "go"
        refine gIxL (SqL.of ha2) (at_tabI (i := i + 1) (by omega) (by omega)) ?_
        tm_at "go"
        refine ⟨.inl ⟨rfl, _, SqL.of z.2⟩, ?_⟩
        tm_at "go"
        exact ⟨D, _, _, rfl, rfl, z.2, ir_lt hn (by omega), fin _ _ (by rw [if_neg h0]) (by rw [if_pos h2]), _, _, _, rfl⟩
      · refine gIfF (decide_eq_false (by omega)) ?_
        tm_at "go"
        refine ⟨.inl ⟨rfl, _, SqL.of z.2⟩, ?_⟩
        tm_at "go"
        exact ⟨D, _, _, rfl, rfl, z.2, ir_lt hn (by omega), fin _ _ (by rw [if_neg h0]) (by rw [if_neg h2]), _, _, _, rfl⟩
  · rintro σ H1 ⟨z, v1, v2, v3, rfl⟩
    tm_at "go"
    exact q _ _ z.1 hD z.2
theorem ok_Sums_parted (S : TX K mg) : OkF P w K mg base 2 (He.ma K (He.ga K "Sums") "parted") (p_parted .sum) := by
  refine okF (F_Sums_parted S) sc_Sums_parted (by tm_at "len") (fun _ _ _ _ _ _ us hl => match us, hl with | [_, _], _ => rfl) (fun cdv A outer s H vs Q E hr h => ?_)
  obtain ⟨x0, a, n, f, rfl, ha, h2, hn, q⟩ := h
  refine ⟨_, (pss_cons (ps_setLc (i := 2) (own := [("one", 3), ("other", 4)]) (g := gTup K 2 (gCons (gName 3) (gCons (gName 4) gNil))) (tt := tYes)  rfl sc_Sums_parted.nd rfl rfl (sw_true rfl rfl rfl (by decide +kernel)) (kList (K := K) rfl (pe_f (ok_pairs_of S) (hr.mono (by decide)) rfl (glo_pairs_of S) (pa_cons (pv 1) pa_nil))) (blkOk_by (own := [("one", 3), ("other", 4)]) (N := ["self", "row", "sums", "one", "other"]) (sc := defScope s_Sums_parted) (by decide +kernel)) (fun _ _ _ _ _ => (kPTup (K := K) (n := 2) rfl rfl (pgs_cons (pg_name (i := 3) sc_Sums_parted.nd rfl (Or.inl rfl)) (pgs_cons (pg_name (i := 4) sc_Sums_parted.nd rfl (Or.inl rfl)) pgs_nil)))) (fun _ _ _ _ _ => pts_nil) (fun _ _ _ _ _ => (pe_op op_add (pv 3) (pv 4))))
    (pss_cons (ps_if (pt_cmpR op_eq (pe_op op_and (pe_callB (kLen (K := K) rfl) rfl (fr_len S) bt_len (pa_cons (pv 1) pa_nil)) pe_int) pe_int (nomark _)) (pss_one (ps_expr (kBM (K := K) rfl PySem.F.plainAttrs_list PySem.F.slot_list_append PySem.F.type_list_append mt_append (pv 2) (pa_cons (pe_op op_mul pe_int (pe_ix (kIxL (K := K) rfl) (pv 1) (pe_un un_neg pe_int) (fun _ _ => rfl))) pa_nil)))) pss_nil)
    (pss_one (ps_ret (pe_tup (pa_cons (pv 2) (pa_cons (pe_lc (own := [("one", 3), ("other", 4)]) (g := gTup K 2 (gCons (gName 3) (gCons (gName 4) gNil))) (tt := tYes) rfl sc_Sums_parted.nd (kList (K := K) rfl (pe_f (ok_pairs_of S) (hr.mono (by decide)) rfl (glo_pairs_of S) (pa_cons (pv 1) pa_nil))) (blkOk_by (own := [("one", 3), ("other", 4)]) (N := ["self", "row", "sums", "one", "other"]) (sc := defScope s_Sums_parted) (by decide +kernel)) (fun _ _ _ _ _ => (kPTup (K := K) (n := 2) rfl rfl (pgs_cons (pg_name (i := 3) sc_Sums_parted.nd rfl (Or.inl rfl)) (pgs_cons (pg_name (i := 4) sc_Sums_parted.nd rfl (Or.inl rfl)) pgs_nil)))) (fun _ _ _ _ _ => pts_nil) (fun _ _ _ _ _ => (pe_op op_sub (pv 3) (pv 4)))) pa_nil))))))), ?_⟩
  tm_at "go"
  refine ⟨a, n, f, rfl, ha, hn, fun L ta H1 N => ?_⟩
  refine gL1 (SqL.of N.top) ?_
  intro D hD
  refine lcIt (wTab (m := n / 2) (f := fun k => .ref (ta k))) (fun i H' => AccI H1 D i (pS .sum n f) H') (AccI.nil hD) (fun i H' _ z => SqL.of (z.1 _ _ N.top)) ?_ ?_
  · rintro i x H2 H3 hi z ⟨rfl, rfl⟩
    refine gTp (SqT.of (z.1 _ _ (N.it i hi))) rfl ?_
    tm_at "go"
    refine ⟨rfl, ?_⟩
    tm_at "go"
    exact ⟨_, z.2, ir_lt hn (by omega), z.push hD (by unfold pS; dsimp only; rw [if_pos hi])⟩
  · rintro H2 z
    have ha2 := z.1 _ _ (N.same _ _ ha)
    have hD0 := N.same.free hD
    tm_at "go"
    refine ⟨_, n, rfl, .inl ⟨_, SqL.of ha2, tab_len.symm⟩, ?_⟩
    tm_at "go"
    rw [PyProof.Rows.bitAnd_m1]
    by_cases ho : n % 2 = 1
    · refine gIfT (decide_eq_true (congrArg V.int (by omega))) ?_
      tm_at "go"
      refine ⟨.inl ⟨rfl, _, SqL.of z.2⟩, ?_⟩
      tm_at "go"
      refine gIxL (SqL.of ha2) (at_last (by omega)) ?_
      tm_at "go"
      refine ⟨D, _, _, rfl, rfl, z.2, ir_lt hn (by omega), ?_⟩
      have z2 := z.push hD (v := .int (2 * f (n - 1))) (by unfold pS; dsimp only; rw [if_neg (by omega)])
      rw [show n / 2 + 1 = hf n by unfold hf; omega] at z2
      generalize upd _ _ _ = H3 at z2 ⊢
      tm_at "go"
      refine ⟨a, n, f, rfl, z2.1 _ _ (N.same _ _ ha), hn, fun L2 tb H4 N2 => ?_⟩
      refine gL1 (SqL.of N2.top) ?_
      intro D2 hD2
      refine lcIt (wTab (m := n / 2) (f := fun k => .ref (tb k))) (fun i H' => AccI H4 D2 i (pD .sum n f) H') (AccI.nil hD2) (fun i H' _ z => SqL.of (z.1 _ _ N2.top)) ?_ ?_
      · rintro i x H5 H6 hi z3 ⟨rfl, rfl⟩
        refine gTp (SqT.of (z3.1 _ _ (N2.it i hi))) rfl ?_
        tm_at "go"
        refine ⟨rfl, ?_⟩
        tm_at "go"
        exact ⟨_, z3.2, ir_lt hn (by omega), z3.push hD2 rfl⟩
      · rintro H5 z3
        tm_at "go"
        refine ⟨szL rfl, fun t ht => ?_⟩
        exact q t D D2 _ (N.same.trans (z2.1.trans (N2.same.trans (z3.1.trans (Same.new ht))))) upd_same (get_new ht (z3.1 _ _ (N2.same _ _ z2.2))) (get_new ht z3.2)
    · refine gIfF (decide_eq_false (fun e => by injection e with e; omega)) ?_
      tm_at "go"
      rw [show n / 2 = hf n by unfold hf; omega] at z
      have z2 := z
      generalize H2 = H3 at z2 ⊢
      tm_at "go"
      refine ⟨a, n, f, rfl, z2.1 _ _ (N.same _ _ ha), hn, fun L2 tb H4 N2 => ?_⟩
      refine gL1 (SqL.of N2.top) ?_
      intro D2 hD2
      refine lcIt (wTab (m := n / 2) (f := fun k => .ref (tb k))) (fun i H' => AccI H4 D2 i (pD .sum n f) H') (AccI.nil hD2) (fun i H' _ z => SqL.of (z.1 _ _ N2.top)) ?_ ?_
      · rintro i x H5 H6 hi z3 ⟨rfl, rfl⟩
        refine gTp (SqT.of (z3.1 _ _ (N2.it i hi))) rfl ?_
        tm_at "go"
        refine ⟨rfl, ?_⟩
        tm_at "go"
        exact ⟨_, z3.2, ir_lt hn (by omega), z3.push hD2 rfl⟩
      · rintro H5 z3
        tm_at "go"
        refine ⟨szL rfl, fun t ht => ?_⟩
        exact q t D D2 _ (N.same.trans (z2.1.trans (N2.same.trans (z3.1.trans (Same.new ht))))) upd_same (get_new ht (z3.1 _ _ (N2.same _ _ z2.2))) (get_new ht z3.2)
theorem ok_Sums_joined (S : TX K mg) : OkF P w K mg base 1 (He.ma K (He.ga K "Sums") "joined") (p_three (bk .sum)) := by
  refine okF (F_Sums_joined S) sc_Sums_joined (by tm_at "len") (fun _ _ _ _ _ _ us hl => match us, hl with | [_, _, _], _ => rfl) (fun cdv A outer s H vs Q E hr h => ?_)
  obtain ⟨x0, a, b, n, s, d, rfl, ha, hb, h2, hn, q⟩ := h
  refine ⟨_, (pss_cons (ps_set (i := 3) sc_Sums_joined.nd rfl (Or.inl rfl) (pe_lst pa_nil))
    (pss_cons (ps_for PassesOwn.never rfl (kZip (K := K) rfl rfl (fr_zip S) (pa_cons (pv 1) (pa_cons (pv 2) pa_nil))) (kPTup (K := K) (n := 2) rfl rfl (pgs_cons (pg_name (i := 4) sc_Sums_joined.nd rfl (Or.inl rfl)) (pgs_cons (pg_name (i := 5) sc_Sums_joined.nd rfl (Or.inl rfl)) pgs_nil))) (pss_cons (ps_set (i := 6) sc_Sums_joined.nd rfl (Or.inl rfl) (pe_op op_fdiv (pe_op op_add (pv 4) (pv 5)) pe_int))
    (pss_one (ps_expr (kBM (K := K) rfl PySem.F.plainAttrs_list PySem.F.slot_list_extend PySem.F.type_list_extend mt_extend (pv 3) (pa_cons (pe_lst (pa_cons (pv 6) (pa_cons (pe_op op_sub (pv 4) (pv 6)) pa_nil))) pa_nil))))))
    (pss_cons (ps_if (pt_cmpR op_gt (pe_callB (kLen (K := K) rfl) rfl (fr_len S) bt_len (pa_cons (pv 1) pa_nil)) (pe_callB (kLen (K := K) rfl) rfl (fr_len S) bt_len (pa_cons (pv 2) pa_nil)) (nomark _)) (pss_one (ps_expr (kBM (K := K) rfl PySem.F.plainAttrs_list PySem.F.slot_list_append PySem.F.type_list_append mt_append (pv 3) (pa_cons (pe_op op_fdiv (pe_ix (kIxL (K := K) rfl) (pv 1) (pe_un un_neg pe_int) (fun _ _ => rfl)) pe_int) pa_nil)))) pss_nil)
    (pss_one (ps_ret (pv 3)))))), ?_⟩
  tm_at "go"
  refine ⟨szL rfl, fun D hD => ?_⟩
  have z0 := AccI.nil (g := bk .sum n s d) hD
  tm_at "go"
  refine gZ1 (SqL.of (z0.1 _ _ ha)) (SqL.of (z0.1 _ _ hb)) ?_
  refine forIt (wZip2 (m := n / 2) (by unfold hf; omega)) (fun i σ H' => AccI H D (2 * i) (bk .sum n s d) H' ∧ ∃ v1 v2 v3, σ = [some x0, some (.ref a), some (.ref b), some (.ref D), v1, v2, v3]) ⟨z0, none, none, none, rfl⟩ (fun i σ H' _ z => ⟨SqL.of (z.1.1 _ _ ha), SqL.of (z.1.1 _ _ hb)⟩) ?_ ?_
  · rintro i x σ H1 H2 hi ⟨z, v1, v2, v3, rfl⟩ ⟨T, rfl, hT, s1, eT⟩
    refine gTp (SqT.of eT) rfl ?_
    replace z := z.step s1
    tm_at "go"
    refine ⟨.inl ⟨rfl, _, SqL.of z.2⟩, ?_⟩
    tm_at "go"
    refine ⟨szL rfl, fun L hL => ?_⟩
    replace z := z.step (Same.new hL (o := .lst [.int ((s i + d i) / 2), .int (s i - (s i + d i) / 2)]))
    tm_at "go"
    exact ⟨D, L, _, _, rfl, rfl, z.2, upd_same, by rw [ir_len]; exact line_le (by show 2 * i + 2 ≤ _; omega), z.push2 hD (by rw [bk_sum_e hi]) (by rw [bk_sum_o hi]), _, _, _, rfl⟩
  · rintro σ H1 ⟨z, v1, v2, v3, rfl⟩
    tm_at "go"
    refine ⟨_, hf n, rfl, .inl ⟨_, SqL.of (z.1 _ _ ha), tab_len.symm⟩, ?_⟩
    tm_at "go"
    refine ⟨_, n / 2, rfl, .inl ⟨_, SqL.of (z.1 _ _ hb), tab_len.symm⟩, ?_⟩
    tm_at "go"
    by_cases ho : n % 2 = 1
    · refine gIfT (decide_eq_true (by unfold hf; omega)) ?_
      tm_at "go"
      refine ⟨.inl ⟨rfl, _, SqL.of z.2⟩, ?_⟩
      tm_at "go"
      refine gIxL (SqL.of (z.1 _ _ ha)) (at_last (by unfold hf; omega)) ?_
      tm_at "go"
      refine ⟨D, _, _, rfl, rfl, z.2, ir_lt hn (by omega), ?_⟩
      have z2 := z.push hD (v := .int (s (hf n - 1) / 2)) (by rw [bk_sum_l, show hf n - 1 = n / 2 by unfold hf; omega])
      rw [show 2 * (n / 2) + 1 = n by omega] at z2
      tm_at "go"
      exact q _ _ z2.1 hD z2.2
    · refine gIfF (decide_eq_false (by unfold hf; omega)) ?_
      tm_at "go"
      rw [show 2 * (n / 2) = n by omega] at z
      exact q _ _ z.1 hD z.2
theorem ok_half_row (S : TX K mg) : OkF P w K mg base 1 (He.ga K "half_row") (p_two hB) := by
  refine okF (F_half_row S) sc_half_row (by tm_at "len") (fun _ _ _ _ _ _ us hl => match us, hl with | [_, _], _ => rfl) (fun cdv A outer s H vs Q E hr h => ?_)
  obtain ⟨a, b, n, s, d, rfl, ha, hb, h2, hn, q⟩ := h
  refine ⟨_, (pss_cons (ps_set (i := 2) sc_half_row.nd rfl (Or.inl rfl) (pe_lst pa_nil))
    (pss_cons (ps_for PassesOwn.never rfl (kZip (K := K) rfl rfl (fr_zip S) (pa_cons (pv 0) (pa_cons (pv 1) pa_nil))) (kPTup (K := K) (n := 2) rfl rfl (pgs_cons (pg_name (i := 3) sc_half_row.nd rfl (Or.inl rfl)) (pgs_cons (pg_name (i := 4) sc_half_row.nd rfl (Or.inl rfl)) pgs_nil))) (pss_cons (ps_set (i := 5) sc_half_row.nd rfl (Or.inl rfl) (pe_op op_add (pv 3) (pe_op op_fdiv (pe_op op_add (pv 4) pe_int) pe_int)))
    (pss_one (ps_expr (kBM (K := K) rfl PySem.F.plainAttrs_list PySem.F.slot_list_extend PySem.F.type_list_extend mt_extend (pv 2) (pa_cons (pe_lst (pa_cons (pv 5) (pa_cons (pe_op op_sub (pv 5) (pv 4)) pa_nil))) pa_nil))))))
    (pss_cons (ps_if (pt_cmpR op_gt (pe_callB (kLen (K := K) rfl) rfl (fr_len S) bt_len (pa_cons (pv 0) pa_nil)) (pe_callB (kLen (K := K) rfl) rfl (fr_len S) bt_len (pa_cons (pv 1) pa_nil)) (nomark _)) (pss_one (ps_expr (kBM (K := K) rfl PySem.F.plainAttrs_list PySem.F.slot_list_append PySem.F.type_list_append mt_append (pv 2) (pa_cons (pe_ix (kIxL (K := K) rfl) (pv 0) (pe_un un_neg pe_int) (fun _ _ => rfl)) pa_nil)))) pss_nil)
    (pss_one (ps_ret (pv 2)))))), ?_⟩
  tm_at "go"
  refine ⟨szL rfl, fun D hD => ?_⟩
  have z0 := AccI.nil (g := hB n s d) hD
  tm_at "go"
  refine gZ1 (SqL.of (z0.1 _ _ ha)) (SqL.of (z0.1 _ _ hb)) ?_
  refine forIt (wZip2 (m := n / 2) (by unfold hf; omega)) (fun i σ H' => AccI H D (2 * i) (hB n s d) H' ∧ ∃ v1 v2 v3, σ = [some (.ref a), some (.ref b), some (.ref D), v1, v2, v3]) ⟨z0, none, none, none, rfl⟩ (fun i σ H' _ z => ⟨SqL.of (z.1.1 _ _ ha), SqL.of (z.1.1 _ _ hb)⟩) ?_ ?_
  · rintro i x σ H1 H2 hi ⟨z, v1, v2, v3, rfl⟩ ⟨T, rfl, hT, s1, eT⟩
    refine gTp (SqT.of eT) rfl ?_
    replace z := z.step s1
    tm_at "go"
    refine ⟨.inl ⟨rfl, _, SqL.of z.2⟩, ?_⟩
    tm_at "go"
    refine ⟨szL rfl, fun L hL => ?_⟩
    replace z := z.step (Same.new hL (o := .lst [.int (s i + (d i + 1) / 2), .int (s i + (d i + 1) / 2 - d i)]))
    tm_at "go"
    exact ⟨D, L, _, _, rfl, rfl, z.2, upd_same, by rw [ir_len]; exact line_le (by show 2 * i + 2 ≤ _; omega), z.push2 hD (by rw [hB_e hi]) (by rw [hB_o hi]), _, _, _, rfl⟩
  · rintro σ H1 ⟨z, v1, v2, v3, rfl⟩
    tm_at "go"
    refine ⟨_, hf n, rfl, .inl ⟨_, SqL.of (z.1 _ _ ha), tab_len.symm⟩, ?_⟩
    tm_at "go"
    refine ⟨_, n / 2, rfl, .inl ⟨_, SqL.of (z.1 _ _ hb), tab_len.symm⟩, ?_⟩
    tm_at "go"
    by_cases ho : n % 2 = 1
    · refine gIfT (decide_eq_true (by unfold hf; omega)) ?_
      tm_at "go"
      refine ⟨.inl ⟨rfl, _, SqL.of z.2⟩, ?_⟩
      tm_at "go"
      refine gIxL (SqL.of (z.1 _ _ ha)) (at_last (by unfold hf; omega)) ?_
      tm_at "go"
      refine ⟨D, _, _, rfl, rfl, z.2, ir_lt hn (by omega), ?_⟩
      have z2 := z.push hD (v := .int (s (hf n - 1))) (by rw [hB_l, show hf n - 1 = n / 2 by unfold hf; omega])
      rw [show 2 * (n / 2) + 1 = n by omega] at z2
      tm_at "go"
      exact q _ _ z2.1 hD z2.2
    · refine gIfF (decide_eq_false (by unfold hf; omega)) ?_
      tm_at "go"
      rw [show 2 * (n / 2) = n by omega] at z
      exact q _ _ z.1 hD z.2
theorem ok_Halves_parted (S : TX K mg) : OkF P w K mg base 3 (He.ma K (He.ga K "Halves") "parted") (p_parted .half) := by
  refine okF (F_Halves_parted S) sc_Halves_parted (by tm_at "len") (fun _ _ _ _ _ _ us hl => match us, hl with | [_, _], _ => rfl) (fun cdv A outer s H vs Q E hr h => ?_)
  obtain ⟨x0, a, n, f, rfl, ha, h2, hn, q⟩ := h
  refine ⟨_, (pss_one (ps_ret (pe_tup (pa_cons (pe_f (ok_half_sums S) (hr.mono (by decide)) rfl (glo_half_sums S) (pa_cons (pv 1) pa_nil)) (pa_cons (pe_lc (own := [("one", 2), ("other", 3)]) (g := gTup K 2 (gCons (gName 2) (gCons (gName 3) gNil))) (tt := tYes) rfl sc_Halves_parted.nd (kList (K := K) rfl (pe_f (ok_pairs_of S) (hr.mono (by decide)) rfl (glo_pairs_of S) (pa_cons (pv 1) pa_nil))) (blkOk_by (own := [("one", 2), ("other", 3)]) (N := ["self", "row", "one", "other"]) (sc := defScope s_Halves_parted) (by decide +kernel)) (fun _ _ _ _ _ => (kPTup (K := K) (n := 2) rfl rfl (pgs_cons (pg_name (i := 2) sc_Halves_parted.nd rfl (Or.inl rfl)) (pgs_cons (pg_name (i := 3) sc_Halves_parted.nd rfl (Or.inl rfl)) pgs_nil)))) (fun _ _ _ _ _ => pts_nil) (fun _ _ _ _ _ => (pe_op op_sub (pv 2) (pv 3)))) pa_nil))))), ?_⟩
  tm_at "go"
  refine ⟨a, n, f, rfl, ha, h2, hn, fun D H1 s1 hD e1 => ?_⟩
  tm_at "go"
  refine ⟨a, n, f, rfl, s1 _ _ ha, hn, fun L2 tb H4 N2 => ?_⟩
  refine gL1 (SqL.of N2.top) ?_
  intro D2 hD2
  refine lcIt (wTab (m := n / 2) (f := fun k => .ref (tb k))) (fun i H' => AccI H4 D2 i (pD .half n f) H') (AccI.nil hD2) (fun i H' _ z => SqL.of (z.1 _ _ N2.top)) ?_ ?_
  · rintro i x H5 H6 hi z3 ⟨rfl, rfl⟩
    refine gTp (SqT.of (z3.1 _ _ (N2.it i hi))) rfl ?_
    tm_at "go"
    refine ⟨rfl, ?_⟩
    tm_at "go"
    exact ⟨_, z3.2, ir_lt hn (by omega), z3.push hD2 rfl⟩
  · rintro H5 z3
    tm_at "go"
    refine ⟨szL rfl, fun t ht => ?_⟩
    exact q t D D2 _ (s1.trans (N2.same.trans (z3.1.trans (Same.new ht)))) upd_same (get_new ht (z3.1 _ _ (N2.same _ _ e1))) (get_new ht z3.2)
theorem ok_Halves_joined (S : TX K mg) : OkF P w K mg base 2 (He.ma K (He.ga K "Halves") "joined") (p_three (bk .half)) := by
  refine okF (F_Halves_joined S) sc_Halves_joined (by tm_at "len") (fun _ _ _ _ _ _ us hl => match us, hl with | [_, _, _], _ => rfl) (fun cdv A outer s H vs Q E hr h => ?_)
  obtain ⟨x0, a, b, n, s, d, rfl, ha, hb, h2, hn, q⟩ := h
  refine ⟨_, (pss_one (ps_ret (pe_f (ok_half_row S) (hr.mono (by decide)) rfl (glo_half_row S) (pa_cons (pv 1) (pa_cons (pv 2) pa_nil))))), ?_⟩
  tm_at "go"
  exact ⟨a, b, n, s, d, rfl, ha, hb, h2, hn, q⟩
theorem ok_Leaning_joined (S : TX K mg) : OkF P w K mg base 2 (He.ma K (He.ga K "Leaning") "joined") (p_three (bk .lean)) := by
  refine okF (F_Leaning_joined S) sc_Leaning_joined (by tm_at "len") (fun _ _ _ _ _ _ us hl => match us, hl with | [_, _, _], _ => rfl) (fun cdv A outer s H vs Q E hr h => ?_)
  obtain ⟨x0, a, b, n, s, d, rfl, ha, hb, h2, hn, q⟩ := h
  refine ⟨_, (pss_cons (ps_set (i := 3) sc_Leaning_joined.nd rfl (Or.inl rfl) (pe_f (ok_slopes S) (hr.mono (by decide)) rfl (glo_slopes S) (pa_cons (pv 1) (pa_cons (pe_callB (kLen (K := K) rfl) rfl (fr_len S) bt_len (pa_cons (pv 2) pa_nil)) pa_nil))))
    (pss_one (ps_ret (pe_f (ok_half_row S) (hr.mono (by decide)) rfl (glo_half_row S) (pa_cons (pv 1) (pa_cons (pe_lc (own := [("difference", 4), ("guess", 5)]) (g := gTup K 2 (gCons (gName 4) (gCons (gName 5) gNil))) (tt := tYes) rfl sc_Leaning_joined.nd (kZip (K := K) rfl rfl (fr_zip S) (pa_cons (pv 2) (pa_cons (pv 3) pa_nil))) (blkOk_by (own := [("difference", 4), ("guess", 5)]) (N := ["self", "sums", "differences", "guesses", "difference", "guess"]) (sc := defScope s_Leaning_joined) (by decide +kernel)) (fun _ _ _ _ _ => (kPTup (K := K) (n := 2) rfl rfl (pgs_cons (pg_name (i := 4) sc_Leaning_joined.nd rfl (Or.inl rfl)) (pgs_cons (pg_name (i := 5) sc_Leaning_joined.nd rfl (Or.inl rfl)) pgs_nil)))) (fun _ _ _ _ _ => pts_nil) (fun _ _ _ _ _ => (pe_op op_add (pv 4) (pv 5)))) pa_nil)))))), ?_⟩
  tm_at "go"
  refine ⟨_, n / 2, rfl, .inl ⟨_, SqL.of hb, tab_len.symm⟩, ?_⟩
  tm_at "go"
  refine ⟨a, hf n, n / 2, s, rfl, ha, by unfold hf; omega, by unfold hf; omega, fun G H1 s1 hG eG => ?_⟩
  tm_at "go"
  refine gZ1 (SqL.of (s1 _ _ hb)) (SqL.of eG) ?_
  intro D hD
  refine lcIt (wZip2 (m := n / 2) (by omega)) (fun i H' => AccI H1 D i (fun k => d k + sl (hf n) s k) H') (AccI.nil hD) (fun i H' _ z => ⟨SqL.of (z.1 _ _ (s1 _ _ hb)), SqL.of (z.1 _ _ eG)⟩) ?_ ?_
  · rintro i x H5 H6 hi z ⟨T, rfl, hT, s3, eT⟩
    refine gTp (SqT.of eT) rfl ?_
    replace z := z.step s3
    tm_at "go"
    refine ⟨rfl, ?_⟩
    tm_at "go"
    exact ⟨_, z.2, ir_lt hn (by omega), z.push hD rfl⟩
  · rintro H5 z
    tm_at "go"
    exact ⟨a, D, n, s, _, rfl, z.1 _ _ (s1 _ _ ha), z.2, h2, hn, fun D2 H6 s6 h6 e6 => q _ _ (s1.trans (z.1.trans s6)) (s1.free (z.1.free h6)) e6⟩
theorem ok_Leaning_parted (S : TX K mg) : OkF P w K mg base 3 (He.ma K (He.ga K "Leaning") "parted") (p_parted .lean) := by
  refine okF (F_Leaning_parted S) sc_Leaning_parted (by tm_at "len") (fun _ _ _ _ _ _ us hl => match us, hl with | [_, _], _ => rfl) (fun cdv A outer s H vs Q E hr h => ?_)
  obtain ⟨x0, a, n, f, rfl, ha, h2, hn, q⟩ := h
  refine ⟨_, (pss_cons (ps_set (i := 2) sc_Leaning_parted.nd rfl (Or.inl rfl) (pe_f (ok_half_sums S) (hr.mono (by decide)) rfl (glo_half_sums S) (pa_cons (pv 1) pa_nil)))
    (pss_cons (ps_set (i := 3) sc_Leaning_parted.nd rfl (Or.inl rfl) (pe_f (ok_pairs_of S) (hr.mono (by decide)) rfl (glo_pairs_of S) (pa_cons (pv 1) pa_nil)))
    (pss_cons (ps_set (i := 4) sc_Leaning_parted.nd rfl (Or.inl rfl) (pe_f (ok_slopes S) (hr.mono (by decide)) rfl (glo_slopes S) (pa_cons (pv 2) (pa_cons (pe_callB (kLen (K := K) rfl) rfl (fr_len S) bt_len (pa_cons (pv 3) pa_nil)) pa_nil))))
    (pss_one (ps_ret (pe_tup (pa_cons (pv 2) (pa_cons (pe_lc (own := [("guess", 5), ("one", 6), ("other", 7)]) (g := gTup K 2 (gCons (gTup K 2 (gCons (gName 6) (gCons (gName 7) gNil))) (gCons (gName 5) gNil))) (tt := tYes) rfl sc_Leaning_parted.nd (kZip (K := K) rfl rfl (fr_zip S) (pa_cons (pv 3) (pa_cons (pv 4) pa_nil))) (blkOk_by (own := [("guess", 5), ("one", 6), ("other", 7)]) (N := ["self", "row", "sums", "pairs", "guesses", "guess", "one", "other"]) (sc := defScope s_Leaning_parted) (by decide +kernel)) (fun _ _ _ _ _ => (kPTup (K := K) (n := 2) rfl rfl (pgs_cons (kPTup (K := K) (n := 2) rfl rfl (pgs_cons (pg_name (i := 6) sc_Leaning_parted.nd rfl (Or.inl rfl)) (pgs_cons (pg_name (i := 7) sc_Leaning_parted.nd rfl (Or.inl rfl)) pgs_nil))) (pgs_cons (pg_name (i := 5) sc_Leaning_parted.nd rfl (Or.inl rfl)) pgs_nil)))) (fun _ _ _ _ _ => pts_nil) (fun _ _ _ _ _ => (pe_op op_sub (pe_op op_sub (pv 6) (pv 7)) (pv 5)))) pa_nil)))))))), ?_⟩
  tm_at "go"
  refine ⟨a, n, f, rfl, ha, h2, hn, fun B H1 s1 hB eB => ?_⟩
  tm_at "go"
  refine ⟨a, n, f, rfl, s1 _ _ ha, hn, fun L ta H2 N => ?_⟩
  tm_at "go"
  refine ⟨_, n / 2, rfl, .inl ⟨_, SqL.of N.top, tab_len.symm⟩, ?_⟩
  tm_at "go"
  refine ⟨B, hf n, n / 2, _, rfl, N.same _ _ eB, by unfold hf; omega, by unfold hf; omega, fun G H3 s3 hG eG => ?_⟩
  tm_at "go"
  refine gZ1 (SqL.of (s3 _ _ N.top)) (SqL.of eG) ?_
  intro D hD
  refine lcIt (wZip2 (m := n / 2) (by omega)) (fun i H' => AccI H3 D i (pD .lean n f) H') (AccI.nil hD) (fun i H' _ z => ⟨SqL.of (z.1 _ _ (s3 _ _ N.top)), SqL.of (z.1 _ _ eG)⟩) ?_ ?_
  · rintro i x H5 H6 hi z ⟨T, rfl, hT, s5, eT⟩
    refine gTp (SqT.of eT) rfl ?_
    replace z := z.step s5
    refine gCs (gTp (SqT.of (z.1 _ _ (s3 _ _ (N.it i hi)))) rfl ?_)
    tm_at "go"
    refine ⟨rfl, ?_⟩
    tm_at "go"
    exact ⟨_, z.2, ir_lt hn (by omega), z.push hD rfl⟩
  · rintro H5 z
    tm_at "go"
    refine ⟨szL rfl, fun t ht => ?_⟩
    exact q t B D _ (s1.trans (N.same.trans (s3.trans (z.1.trans (Same.new ht))))) upd_same (get_new ht (z.1 _ _ (s3 _ _ (N.same _ _ eB)))) (get_new ht z.2)
theorem ok_Guessed_parted (S : TX K mg) : OkF P w K mg base 2 (He.ma K (He.ga K "Guessed") "parted") (p_parted .guess) := by
  refine okF (F_Guessed_parted S) sc_Guessed_parted (by tm_at "len") (fun _ _ _ _ _ _ us hl => match us, hl with | [_, _], _ => rfl) (fun cdv A outer s H vs Q E hr h => ?_)
  obtain ⟨x0, a, n, f, rfl, ha, h2, hn, q⟩ := h
  refine ⟨_, (pss_cons (ps_set (i := 2) sc_Guessed_parted.nd rfl (Or.inl rfl) (pe_step (K := K) rfl (pv 1) po_none))
    (pss_cons (ps_set (i := 3) sc_Guessed_parted.nd rfl (Or.inl rfl) (pe_lst pa_nil))
    (pss_cons (ps_for PassesOwn.never rfl (kEnum (K := K) rfl rfl (fr_enumerate S) (pa_cons (pe_step (K := K) rfl (pv 1) (po_some pe_int)) pa_nil)) (kPTup (K := K) (n := 2) rfl rfl (pgs_cons (pg_name (i := 4) sc_Guessed_parted.nd rfl (Or.inl rfl)) (pgs_cons (pg_name (i := 5) sc_Guessed_parted.nd rfl (Or.inl rfl)) pgs_nil))) (pss_one (ps_expr (kBM (K := K) rfl PySem.F.plainAttrs_list PySem.F.slot_list_append PySem.F.type_list_append mt_append (pv 3) (pa_cons (pe_op op_sub (pv 5) (pe_op op_fdiv (pe_op op_add (pe_ix (kIxL (K := K) rfl) (pv 2) (pv 4) (fun _ _ => rfl)) (pe_f (ok_nearest S) (hr.mono (by decide)) rfl (glo_nearest S) (pa_cons (pv 2) (pa_cons (pe_op op_add (pv 4) pe_int) pa_nil)))) pe_int)) pa_nil)))))
    (pss_cons (ps_set (i := 6) sc_Guessed_parted.nd rfl (Or.inl rfl) (pe_lst pa_nil))
    (pss_cons (ps_for PassesOwn.never rfl (kEnum (K := K) rfl rfl (fr_enumerate S) (pa_cons (pv 2) pa_nil)) (kPTup (K := K) (n := 2) rfl rfl (pgs_cons (pg_name (i := 4) sc_Guessed_parted.nd rfl (Or.inl rfl)) (pgs_cons (pg_name (i := 7) sc_Guessed_parted.nd rfl (Or.inl rfl)) pgs_nil))) (pss_one (ps_expr (kBM (K := K) rfl PySem.F.plainAttrs_list PySem.F.slot_list_append PySem.F.type_list_append mt_append (pv 6) (pa_cons (pe_op op_add (pv 7) (pe_op op_fdiv (pe_op op_add (pe_op op_add (pe_f (ok_nearest S) (hr.mono (by decide)) rfl (glo_nearest S) (pa_cons (pv 3) (pa_cons (pe_op op_sub (pv 4) pe_int) pa_nil))) (pe_f (ok_nearest S) (hr.mono (by decide)) rfl (glo_nearest S) (pa_cons (pv 3) (pa_cons (pv 4) pa_nil)))) pe_int) pe_int)) pa_nil)))))
    (pss_one (ps_ret (pe_tup (pa_cons (pv 6) (pa_cons (pv 3) pa_nil)))))))))), ?_⟩
  tm_at "go"
  refine ⟨a, _, 0, rfl, SqL.of ha, .inl ⟨rfl, rfl⟩, Nat.zero_le _, fun B hB => ?_⟩
  rw [ir_len, show irow n f = tab n fun i => .int (f i) from rfl, pick_tab (Nat.zero_le _), show (n + 1 - 0) / 2 = hf n from rfl, show (tab (hf n) fun k => V.int (f (0 + 2 * k))) = irow (hf n) (ev f) from ir_congr fun i _ => by rw [Nat.zero_add]; rfl]
  generalize hg : upd _ _ _ = H1
  obtain ⟨s1, eB⟩ := newF hg hB
  tm_at "go"
  refine ⟨szL rfl, fun D hD => ?_⟩
  generalize hg2 : upd _ _ _ = H2
  obtain ⟨s2, eD⟩ := newF hg2 hD
  tm_at "go"
  refine ⟨a, _, 1, rfl, SqL.of (s2 _ _ (s1 _ _ ha)), .inr rfl, by rw [ir_len]; omega, fun C hC => ?_⟩
  rw [ir_len, show irow n f = tab n fun i => .int (f i) from rfl, pick_tab (by omega), show (n + 1 - 1) / 2 = n / 2 from rfl]
  generalize hg3 : upd _ _ _ = H3
  obtain ⟨s3, eC⟩ := newF hg3 hC
  have z0 : AccI H1 D 0 (pD .guess n f) H3 := ⟨s2.trans s3, s3 _ _ eD⟩
  have kB := fun H' (s : Same H1 H') => s _ _ eB
  refine gE1 (SqL.of eC) ?_
  refine forIt (wEnum2 (n := n / 2)) (fun i σ H' => AccI H1 D i (pD .guess n f) H' ∧ H' C = some (.lst (tab (n / 2) fun k => .int (f (1 + 2 * k)))) ∧ ∃ v1 v2, σ = [some x0, some (.ref a), some (.ref B), some (.ref D), v1, v2, none, none])
    ⟨z0, eC, none, none, rfl⟩ (fun i σ H' _ z => SqL.of z.2.1) ?_ ?_
  · rintro i x σ H4 H5 hi ⟨z, zC, v1, v2, rfl⟩ ⟨T, rfl, hT, s5, eT⟩
    refine gTp (SqT.of eT) rfl ?_
    replace z := z.step s5
    tm_at "go"
    refine ⟨.inl ⟨rfl, _, SqL.of z.2⟩, ?_⟩
    tm_at "go"
    refine gIxL (SqL.of (kB _ z.1)) (at_tab (by unfold hf; omega)) ?_
    tm_at "go"
    refine ⟨B, hf n, ev f, _, rfl, kB _ z.1, by unfold hf; omega, by unfold hf; omega, ?_⟩
    tm_at "go"
    have CD : C ≠ D := fun e => by rw [e, eD] at hC; cases hC
    refine ⟨D, _, _, rfl, rfl, z.2, ir_lt hn (by omega), z.push hD (by rw [show 1 + 2 * i = 2 * i + 1 by omega]; rfl), by rw [upd_ne CD]; exact s5 _ _ zC, _, _, rfl⟩
  · rintro σ H4 ⟨z, zC, v1, v2, rfl⟩
    tm_at "go"
    refine ⟨szL rfl, fun E hE => ?_⟩
    generalize hg5 : upd _ _ _ = H5
    obtain ⟨s5, eE⟩ := newF hg5 hE
    tm_at "go"
    have eD2 := s5 _ _ z.2
    refine gE1 (SqL.of (s5 _ _ (kB _ z.1))) ?_
    refine forIt (wEnum2 (n := hf n) (f := fun i => .int (ev f i))) (fun i σ H' => AccI H4 E i (pS .guess n f) H' ∧ ∃ v1 v2 v3, σ = [some x0, some (.ref a), some (.ref B), some (.ref D), v1, v2, some (.ref E), v3])
      ⟨⟨s5, eE⟩, _, _, none, rfl⟩ (fun i σ H' _ zz => SqL.of (zz.1.1 _ _ (kB _ z.1))) ?_ ?_
    · rintro i x σ H6 H7 hi ⟨zz, v1, v2, v3, rfl⟩ ⟨T, rfl, hT, s7, eT⟩
      refine gTp (SqT.of eT) rfl ?_
      replace zz := zz.step s7
      tm_at "go"
      refine ⟨.inl ⟨rfl, _, SqL.of zz.2⟩, ?_⟩
      tm_at "go"
      refine ⟨D, n / 2, pD .guess n f, _, rfl, zz.1 _ _ z.2, by omega, by omega, ?_⟩
      tm_at "go"
      refine ⟨D, n / 2, pD .guess n f, _, rfl, zz.1 _ _ z.2, by omega, by omega, ?_⟩
      tm_at "go"
      exact ⟨E, _, _, rfl, rfl, zz.2, ir_lt (n := 64) (by omega) (by unfold hf at hi; omega), zz.push hE rfl, _, _, _, rfl⟩
    · rintro σ H6 ⟨zz, v1, v2, v3, rfl⟩
      tm_at "go"
      refine ⟨szL rfl, fun t ht => ?_⟩
      exact q t E D _ (s1.trans (z.1.trans (zz.1.trans (Same.new ht)))) upd_same (get_new ht zz.2) (get_new ht (zz.1 _ _ z.2))
theorem ok_Guessed_joined (S : TX K mg) : OkF P w K mg base 2 (He.ma K (He.ga K "Guessed") "joined") (p_three (bk .guess)) := by
  refine okF (F_Guessed_joined S) sc_Guessed_joined (by tm_at "len") (fun _ _ _ _ _ _ us hl => match us, hl with | [_, _, _], _ => rfl) (fun cdv A outer s H vs Q E hr h => ?_)
  obtain ⟨x0, a, b, n, s, d, rfl, ha, hb, h2, hn, q⟩ := h
  refine ⟨_, (pss_cons (ps_set (i := 3) sc_Guessed_joined.nd rfl (Or.inl rfl) (pe_lst pa_nil))
    (pss_cons (ps_for PassesOwn.never rfl (kEnum (K := K) rfl rfl (fr_enumerate S) (pa_cons (pv 1) pa_nil)) (kPTup (K := K) (n := 2) rfl rfl (pgs_cons (pg_name (i := 4) sc_Guessed_joined.nd rfl (Or.inl rfl)) (pgs_cons (pg_name (i := 5) sc_Guessed_joined.nd rfl (Or.inl rfl)) pgs_nil))) (pss_one (ps_expr (kBM (K := K) rfl PySem.F.plainAttrs_list PySem.F.slot_list_append PySem.F.type_list_append mt_append (pv 3) (pa_cons (pe_op op_sub (pv 5) (pe_op op_fdiv (pe_op op_add (pe_op op_add (pe_f (ok_nearest S) (hr.mono (by decide)) rfl (glo_nearest S) (pa_cons (pv 2) (pa_cons (pe_op op_sub (pv 4) pe_int) pa_nil))) (pe_f (ok_nearest S) (hr.mono (by decide)) rfl (glo_nearest S) (pa_cons (pv 2) (pa_cons (pv 4) pa_nil)))) pe_int) pe_int)) pa_nil)))))
    (pss_cons (ps_set (i := 6) sc_Guessed_joined.nd rfl (Or.inl rfl) (pe_lst pa_nil))
    (pss_cons (ps_for PassesOwn.never rfl (kEnum (K := K) rfl rfl (fr_enumerate S) (pa_cons (pv 3) pa_nil)) (kPTup (K := K) (n := 2) rfl rfl (pgs_cons (pg_name (i := 4) sc_Guessed_joined.nd rfl (Or.inl rfl)) (pgs_cons (pg_name (i := 7) sc_Guessed_joined.nd rfl (Or.inl rfl)) pgs_nil))) (pss_cons (ps_expr (kBM (K := K) rfl PySem.F.plainAttrs_list PySem.F.slot_list_append PySem.F.type_list_append mt_append (pv 6) (pa_cons (pv 7) pa_nil)))
    (pss_one (ps_if (pt_cmpR op_lt (pv 4) (pe_callB (kLen (K := K) rfl) rfl (fr_len S) bt_len (pa_cons (pv 2) pa_nil)) (nomark _)) (pss_one (ps_expr (kBM (K := K) rfl PySem.F.plainAttrs_list PySem.F.slot_list_append PySem.F.type_list_append mt_append (pv 6) (pa_cons (pe_op op_add (pe_ix (kIxL (K := K) rfl) (pv 2) (pv 4) (fun _ _ => rfl)) (pe_op op_fdiv (pe_op op_add (pv 7) (pe_f (ok_nearest S) (hr.mono (by decide)) rfl (glo_nearest S) (pa_cons (pv 3) (pa_cons (pe_op op_add (pv 4) pe_int) pa_nil)))) pe_int)) pa_nil)))) pss_nil))))
    (pss_one (ps_ret (pv 6))))))), ?_⟩
  tm_at "go"
  refine ⟨szL rfl, fun B hB => ?_⟩
  have z0 := AccI.nil (g := gF n s d) hB
  tm_at "go"
  refine gE1 (SqL.of (z0.1 _ _ ha)) ?_
  refine forIt (wEnum2 (n := hf n) (f := fun i => .int (s i))) (fun i σ H' => AccI H B i (gF n s d) H' ∧ ∃ v1 v2, σ = [some x0, some (.ref a), some (.ref b), some (.ref B), v1, v2, none, none])
    ⟨z0, none, none, rfl⟩ (fun i σ H' _ zz => SqL.of (zz.1.1 _ _ ha)) ?_ ?_
  · rintro i x σ H6 H7 hi ⟨zz, v1, v2, rfl⟩ ⟨T, rfl, hT, s7, eT⟩
    refine gTp (SqT.of eT) rfl ?_
    replace zz := zz.step s7
    tm_at "go"
    refine ⟨.inl ⟨rfl, _, SqL.of zz.2⟩, ?_⟩
    tm_at "go"
    refine ⟨b, n / 2, d, _, rfl, zz.1 _ _ hb, by omega, by omega, ?_⟩
    tm_at "go"
    refine ⟨b, n / 2, d, _, rfl, zz.1 _ _ hb, by omega, by omega, ?_⟩
    tm_at "go"
    exact ⟨B, _, _, rfl, rfl, zz.2, ir_lt (n := 64) (by omega) (by unfold hf at hi; omega), zz.push hB rfl, _, _, rfl⟩
  · rintro σ H6 ⟨zz, v1, v2, rfl⟩
    tm_at "go"
    refine ⟨szL rfl, fun D hD => ?_⟩
    generalize hg5 : upd _ _ _ = H5
    obtain ⟨s5, eD⟩ := newF hg5 hD
    tm_at "go"
    refine gE1 (SqL.of (s5 _ _ zz.2)) ?_
    refine forIt (wEnum2 (n := hf n) (f := fun i => .int (gF n s d i))) (fun i σ H' => AccI H6 D (min (2 * i) n) (bk .guess n s d) H' ∧ ∃ v1 v2 v3, σ = [some x0, some (.ref a), some (.ref b), some (.ref B), v1, v2, some (.ref D), v3])
      ⟨⟨s5, by rw [show min (2 * 0) n = 0 by omega]; exact eD⟩, _, _, none, rfl⟩ (fun i σ H' _ z3 => SqL.of (z3.1.1 _ _ zz.2)) ?_ ?_
    · rintro i x σ H7 H8 hi ⟨z3, v1, v2, v3, rfl⟩ ⟨T, rfl, hT, s8, eT⟩
      refine gTp (SqT.of eT) rfl ?_
      replace z3 := z3.step s8
      have hi2 : 2 * i < n := by unfold hf at hi; omega
      rw [show min (2 * i) n = 2 * i by omega] at z3
      tm_at "go"
      refine ⟨.inl ⟨rfl, _, SqL.of z3.2⟩, ?_⟩
      tm_at "go"
      refine ⟨D, _, _, rfl, rfl, z3.2, ir_lt hn (by omega), ?_⟩
      have z4 := z3.push hD (v := .int (gF n s d i)) (by rw [bk_g_e])
      generalize upd _ _ _ = H9 at z4 ⊢
      tm_at "go"
      refine ⟨_, n / 2, rfl, .inl ⟨_, SqL.of (z4.1 _ _ (zz.1 _ _ hb)), tab_len.symm⟩, ?_⟩
      tm_at "go"
      by_cases h3 : i < n / 2
      · refine gIfT (decide_eq_true (by omega)) ?_
        tm_at "go"
        refine ⟨.inl ⟨rfl, _, SqL.of z4.2⟩, ?_⟩
        tm_at "go"
        refine gIxL (SqL.of (z4.1 _ _ (zz.1 _ _ hb))) (at_tab h3) ?_
        tm_at "go"
        refine ⟨B, hf n, gF n s d, _, rfl, z4.1 _ _ zz.2, by omega, by unfold hf; omega, ?_⟩
        tm_at "go"
        have z5 := z4.push hD (v := .int (d i + (gF n s d i + nr (hf n) (gF n s d) ((i : Int) + 1)) / 2)) (by rw [bk_g_o])
        refine ⟨D, _, _, rfl, rfl, z4.2, ir_lt hn (by omega), ?_⟩
        rw [show min (2 * (i + 1)) n = 2 * i + 1 + 1 by omega]
        exact ⟨z5, _, _, _, rfl⟩
      · refine gIfF (decide_eq_false (by omega)) ?_
        tm_at "go"
        rw [show min (2 * (i + 1)) n = 2 * i + 1 by omega]
        exact ⟨z4, _, _, _, rfl⟩
    · rintro σ H7 ⟨z3, v1, v2, v3, rfl⟩
      tm_at "go"
      rw [show min (2 * hf n) n = n by unfold hf; omega] at z3
      exact q D _ (zz.1.trans z3.1) (zz.1.free hD) z3.2
end
end Kp
/-! errors carried back; the rule's and the carrier's methods by the object -/
namespace Kp
open PySem PySem.Spec L2
def Rl.cc : Rl → Str
  | .sum => "SumCarrier"
  | .half => "HalfCarrier"
  | .guess => "GuessCarrier"
  | .lean => "LeanCarrier"
def CarAt (K : PySem.W.Frag) (H : Hp) (p : Addr) (r : Rl) : Prop := ∃ dx, H p = some (.ins (He.ga K r.cc) dx [])
theorem CarAt.same {K : PySem.W.Frag} {H H' : Hp} {p : Addr} {r : Rl} (f : CarAt K H p r) (s : Same H H') : CarAt K H' p r := let ⟨dx, e⟩ := f; ⟨dx, s _ _ e⟩
theorem szR {v : V} : ([v] : List V).length * (2 : Int).toNat ≤ sizeLine := line_le (by show 1 * 2 ≤ 1000000; decide)
theorem ir_app {n m k : Nat} {f g : Nat → Int} {h : Nat → V} (hk : k = n + m) (h1 : ∀ i, i < n → f i = g i) (h2 : ∀ i, i < m → h i = .int (g (n + i))) : irow n f ++ tab m h = irow k g := by
  unfold irow
  rw [tab_app, hk]
  refine tab_congr fun i hi => ?_
  by_cases h : i < n
  · rw [if_pos h, h1 i h]
  · rw [if_neg h, h2 _ (by omega), show n + (i - n) = i by omega]
theorem cut_from {n k : Nat} {f : Nat → V} (h : k ≤ n) : cutV (tab n f) (some (k : Int)) none = tab (n - k) fun i => f (k + i) := tab_cut (sIx_nat h) sIx_none (Nat.le_refl _)
theorem cut_to {n k : Nat} {f : Nat → V} (h : k ≤ n) : cutV (tab n f) none (some (k : Int)) = tab k f := by
  rw [tab_cut (a := 0) (b := k) sIx_none (sIx_nat h) h]
  exact tab_congr fun i _ => by rw [Nat.zero_add]
theorem cut_mid {n j k : Nat} {f : Nat → V} (hj : j ≤ n) (h : k ≤ n) : cutV (tab n f) (some (j : Int)) (some (k : Int)) = tab (k - j) fun i => f (j + i) := tab_cut (sIx_nat hj) (sIx_nat h) h
def p_carrier_of (K : PySem.W.Frag) : Pm := fun vs H Q => ∃ r : Rl, vs = [.str r.word] ∧ ∀ a H', Same H H' → H a = none → CarAt K H' a r → Q (.ref a) H'
section
variable {P : Program} {w : World} {K : PySem.W.Frag} {mg : Str → Option Value} {base : Heap}
theorem ok_pairs_joined (S : TX K mg) : OkF P w K mg base 1 (He.ga K "pairs_joined") (p_two pJ) := by
  refine okF (F_pairs_joined S) sc_pairs_joined (by tm_at "len") (fun _ _ _ _ _ _ us hl => match us, hl with | [_, _], _ => rfl) (fun cdv A outer s H vs Q E hr h => ?_)
  obtain ⟨a, b, n, s, d, rfl, ha, hb, h2, hn, q⟩ := h
  refine ⟨_, (pss_cons (ps_set (i := 2) sc_pairs_joined.nd rfl (Or.inl rfl) (pe_lst pa_nil))
    (pss_cons (ps_for PassesOwn.never rfl (kZip (K := K) rfl rfl (fr_zip S) (pa_cons (pv 0) (pa_cons (pv 1) pa_nil))) (kPTup (K := K) (n := 2) rfl rfl (pgs_cons (pg_name (i := 3) sc_pairs_joined.nd rfl (Or.inl rfl)) (pgs_cons (pg_name (i := 4) sc_pairs_joined.nd rfl (Or.inl rfl)) pgs_nil))) (pss_one (ps_expr (kBM (K := K) rfl PySem.F.plainAttrs_list PySem.F.slot_list_extend PySem.F.type_list_extend mt_extend (pv 2) (pa_cons (pe_op op_rep (pe_lst (pa_cons (pe_op op_add (pv 3) (pe_op op_fdiv (pe_op op_add (pv 4) pe_int) pe_int)) pa_nil)) pe_int) pa_nil)))))
    (pss_one (ps_ret (pe_op op_cat (pv 2) (pe_slice (kSlL (K := K) rfl) (pv 0) (po_some (pe_callB (kLen (K := K) rfl) rfl (fr_len S) bt_len (pa_cons (pv 1) pa_nil))) po_none)))))), ?_⟩
  tm_at "go"
  refine ⟨szL rfl, fun D hD => ?_⟩
  have z0 := AccI.nil (g := pJ n s d) hD
  tm_at "go"
  refine gZ1 (SqL.of (z0.1 _ _ ha)) (SqL.of (z0.1 _ _ hb)) ?_
  refine forIt (wZip2 (m := n / 2) (by unfold hf; omega)) (fun i σ H' => AccI H D (2 * i) (pJ n s d) H' ∧ ∃ v1 v2, σ = [some (.ref a), some (.ref b), some (.ref D), v1, v2]) ⟨z0, none, none, rfl⟩ (fun i σ H' _ z => ⟨SqL.of (z.1.1 _ _ ha), SqL.of (z.1.1 _ _ hb)⟩) ?_ ?_
  · rintro i x σ H1 H2 hi ⟨z, v1, v2, rfl⟩ ⟨T, rfl, hT, s1, eT⟩
    refine gTp (SqT.of eT) rfl ?_
    replace z := z.step s1
    tm_at "go"
    refine ⟨.inl ⟨rfl, _, SqL.of z.2⟩, ?_⟩
    tm_at "go"
    refine ⟨szL rfl, fun L hL => ?_⟩
    generalize hg : upd _ _ _ = H3
    obtain ⟨s3, eL⟩ := newF hg hL
    replace z := z.step s3
    tm_at "go"
    refine ⟨L, 2, _, rfl, rfl, eL, by decide, by decide, szR, fun M hM => ?_⟩
    replace z := z.step (Same.new hM (o := .lst (List.replicate (2 : Int).toNat [V.int (s i + (d i + 1) / 2)]).flatten))
    tm_at "go"
    exact ⟨D, M, _, _, rfl, rfl, z.2, upd_same, by rw [ir_len]; exact line_le (by show 2 * i + 2 ≤ _; omega), z.push2 hD (by rw [pJ_e hi]) (by rw [pJ_o hi]), _, _, rfl⟩
  · rintro σ H1 ⟨z, v1, v2, rfl⟩
    tm_at "go"
    refine ⟨_, n / 2, rfl, .inl ⟨_, SqL.of (z.1 _ _ hb), tab_len.symm⟩, ?_⟩
    tm_at "go"
    refine gSlL (SqL.of (z.1 _ _ ha)) fun S1 hS1 => ?_
    generalize hg : upd _ _ _ = H3
    obtain ⟨s3, eS⟩ := newF hg hS1
    rw [show irow (hf n) s = tab (hf n) fun i => .int (s i) from rfl, cut_from (by unfold hf; omega)] at eS
    tm_at "go"
    refine ⟨D, S1, _, _, rfl, rfl, s3 _ _ z.2, eS, by rw [ir_len, tab_len]; exact line_le (by unfold hf; omega), fun R hR => ?_⟩
    refine q R _ (z.1.trans (s3.trans (Same.new hR))) (z.1.free (s3.free hR)) ?_
    rw [upd_same, ir_app (k := n) (g := pJ n s d) (by unfold hf; omega) (fun _ _ => rfl) fun i hi => ?_]
    have : i = 0 := by unfold hf at hi; omega
    rw [this, Nat.add_zero, Nat.add_zero, pJ_l]
theorem ok_SumCarrier_carried_on (S : TX K mg) : OkF P w K mg base 1 (He.ma K (He.ga K "SumCarrier") "carried_on") (p_three (cb .sum)) := by
  refine okF (F_SumCarrier_carried_on S) sc_SumCarrier_carried_on (by tm_at "len") (fun _ _ _ _ _ _ us hl => match us, hl with | [_, _, _], _ => rfl) (fun cdv A outer s H vs Q E hr h => ?_)
  obtain ⟨x0, a, b, n, s, d, rfl, ha, hb, h2, hn, q⟩ := h
  refine ⟨_, (pss_cons (ps_set (i := 3) sc_SumCarrier_carried_on.nd rfl (Or.inl rfl) (pe_lst pa_nil))
    (pss_cons (ps_for PassesOwn.never rfl (kZip (K := K) rfl rfl (fr_zip S) (pa_cons (pv 1) (pa_cons (pv 2) pa_nil))) (kPTup (K := K) (n := 2) rfl rfl (pgs_cons (pg_name (i := 4) sc_SumCarrier_carried_on.nd rfl (Or.inl rfl)) (pgs_cons (pg_name (i := 5) sc_SumCarrier_carried_on.nd rfl (Or.inl rfl)) pgs_nil))) (pss_one (ps_expr (kBM (K := K) rfl PySem.F.plainAttrs_list PySem.F.slot_list_extend PySem.F.type_list_extend mt_extend (pv 3) (pa_cons (pe_op op_rep (pe_lst (pa_cons (pe_op op_fdiv (pe_op op_add (pe_op op_add (pv 4) (pv 5)) pe_int) pe_int) pa_nil)) pe_int) pa_nil)))))
    (pss_one (ps_ret (pe_op op_cat (pv 3) (pe_lc (own := [("total", 4)]) (g := gName 4) (tt := tYes) rfl sc_SumCarrier_carried_on.nd (kList (K := K) rfl (pe_slice (kSlL (K := K) rfl) (pv 1) (po_some (pe_callB (kLen (K := K) rfl) rfl (fr_len S) bt_len (pa_cons (pv 2) pa_nil))) po_none)) (blkOk_by (own := [("total", 4)]) (N := ["self", "sums", "differences", "row", "total", "difference"]) (sc := defScope s_SumCarrier_carried_on) (by decide +kernel)) (fun _ _ _ _ _ => (pg_name (i := 4) sc_SumCarrier_carried_on.nd rfl (Or.inl rfl))) (fun _ _ _ _ _ => pts_nil) (fun _ _ _ _ _ => (pe_op op_fdiv (pe_op op_add (pv 4) pe_int) pe_int)))))))), ?_⟩
  tm_at "go"
  refine ⟨szL rfl, fun D hD => ?_⟩
  have z0 := AccI.nil (g := cb .sum n s d) hD
  tm_at "go"
  refine gZ1 (SqL.of (z0.1 _ _ ha)) (SqL.of (z0.1 _ _ hb)) ?_
  refine forIt (wZip2 (m := n / 2) (by unfold hf; omega)) (fun i σ H' => AccI H D (2 * i) (cb .sum n s d) H' ∧ ∃ v1 v2, σ = [some x0, some (.ref a), some (.ref b), some (.ref D), v1, v2]) ⟨z0, none, none, rfl⟩ (fun i σ H' _ z => ⟨SqL.of (z.1.1 _ _ ha), SqL.of (z.1.1 _ _ hb)⟩) ?_ ?_
  · rintro i x σ H1 H2 hi ⟨z, v1, v2, rfl⟩ ⟨T, rfl, hT, s1, eT⟩
    refine gTp (SqT.of eT) rfl ?_
    replace z := z.step s1
    tm_at "go"
    refine ⟨.inl ⟨rfl, _, SqL.of z.2⟩, ?_⟩
    tm_at "go"
    refine ⟨szL rfl, fun L hL => ?_⟩
    generalize hg : upd _ _ _ = H3
    obtain ⟨s3, eL⟩ := newF hg hL
    replace z := z.step s3
    tm_at "go"
    refine ⟨L, 2, _, rfl, rfl, eL, by decide, by decide, szR, fun M hM => ?_⟩
    replace z := z.step (Same.new hM (o := .lst (List.replicate (2 : Int).toNat [V.int ((s i + d i + 1) / 2)]).flatten))
    tm_at "go"
    exact ⟨D, M, _, _, rfl, rfl, z.2, upd_same, by rw [ir_len]; exact line_le (by show 2 * i + 2 ≤ _; omega), z.push2 hD (by rw [cb_sum_e hi]) (by rw [cb_sum_o hi]), _, _, rfl⟩
  · rintro σ H1 ⟨z, v1, v2, rfl⟩
    tm_at "go"
    refine ⟨_, n / 2, rfl, .inl ⟨_, SqL.of (z.1 _ _ hb), tab_len.symm⟩, ?_⟩
    tm_at "go"
    refine gSlL (SqL.of (z.1 _ _ ha)) fun S1 hS1 => ?_
    generalize hg : upd _ _ _ = H3
    obtain ⟨s3, eS⟩ := newF hg hS1
    rw [show irow (hf n) s = tab (hf n) fun i => .int (s i) from rfl, cut_from (by unfold hf; omega)] at eS
    refine gL1 (SqL.of eS) ?_
    intro C hC
    refine lcIt (wTab (m := hf n - n / 2) (f := fun i => .int (s (n / 2 + i)))) (fun i H' => AccI H3 C i (fun i => (s (n / 2 + i) + 1) / 2) H') (AccI.nil hC) (fun i H' _ zz => SqL.of (zz.1 _ _ eS)) ?_ ?_
    · rintro i x H5 H6 hi z3 ⟨rfl, rfl⟩
      tm_at "go"
      refine ⟨rfl, ?_⟩
      tm_at "go"
      exact ⟨_, z3.2, ir_lt hn (by unfold hf at hi; omega), z3.push hC rfl⟩
    · rintro H5 z3
      tm_at "go"
      refine ⟨D, C, _, _, rfl, rfl, z3.1 _ _ (s3 _ _ z.2), z3.2, by rw [ir_len, ir_len]; exact line_le (by unfold hf; omega), fun R hR => ?_⟩
      refine q R _ (z.1.trans (s3.trans (z3.1.trans (Same.new hR)))) (z.1.free (s3.free (z3.1.free hR))) ?_
      rw [upd_same, ir_app (k := n) (g := cb .sum n s d) (by unfold hf; omega) (fun _ _ => rfl) fun i hi => ?_]
      have : i = 0 := by unfold hf at hi; omega
      rw [this, Nat.add_zero, cb_sum_l]
      rfl
theorem ok_HalfCarrier_carried_on (S : TX K mg) : OkF P w K mg base 2 (He.ma K (He.ga K "HalfCarrier") "carried_on") (p_three (cb .half)) := by
  refine okF (F_HalfCarrier_carried_on S) sc_HalfCarrier_carried_on (by tm_at "len") (fun _ _ _ _ _ _ us hl => match us, hl with | [_, _, _], _ => rfl) (fun cdv A outer s H vs Q E hr h => ?_)
  obtain ⟨x0, a, b, n, s, d, rfl, ha, hb, h2, hn, q⟩ := h
  refine ⟨_, (pss_one (ps_ret (pe_f (ok_pairs_joined S) (hr.mono (by decide)) rfl (glo_pairs_joined S) (pa_cons (pv 1) (pa_cons (pv 2) pa_nil))))), ?_⟩
  tm_at "go"
  exact ⟨a, b, n, s, d, rfl, ha, hb, h2, hn, q⟩
theorem ok_LeanCarrier_carried_on (S : TX K mg) : OkF P w K mg base 2 (He.ma K (He.ga K "LeanCarrier") "carried_on") (p_three (cb .lean)) := by
  refine okF (F_LeanCarrier_carried_on S) sc_LeanCarrier_carried_on (by tm_at "len") (fun _ _ _ _ _ _ us hl => match us, hl with | [_, _, _], _ => rfl) (fun cdv A outer s H vs Q E hr h => ?_)
  obtain ⟨x0, a, b, n, s, d, rfl, ha, hb, h2, hn, q⟩ := h
  refine ⟨_, (pss_cons (ps_set (i := 3) sc_LeanCarrier_carried_on.nd rfl (Or.inl rfl) (pe_lst pa_nil))
    (pss_cons (ps_for PassesOwn.never rfl (kEnum (K := K) rfl rfl (fr_enumerate S) (pa_cons (pv 2) pa_nil)) (kPTup (K := K) (n := 2) rfl rfl (pgs_cons (pg_name (i := 4) sc_LeanCarrier_carried_on.nd rfl (Or.inl rfl)) (pgs_cons (pg_name (i := 5) sc_LeanCarrier_carried_on.nd rfl (Or.inl rfl)) pgs_nil))) (pss_cons (ps_set (i := 6) sc_LeanCarrier_carried_on.nd rfl (Or.inl rfl) (pe_op op_add (pe_ix (kIxL (K := K) rfl) (pv 1) (pe_callB (call_max2 rfl) rfl (fr_max S) bt_max (pa_cons pe_int (pa_cons (pe_op op_sub (pv 4) pe_int) pa_nil))) (fun _ _ => rfl)) (pe_f (ok_nearest S) (hr.mono (by decide)) rfl (glo_nearest S) (pa_cons (pv 1) (pa_cons (pe_op op_add (pv 4) pe_int) pa_nil)))))
    (pss_one (ps_expr (kBM (K := K) rfl PySem.F.plainAttrs_list PySem.F.slot_list_append PySem.F.type_list_append mt_append (pv 3) (pa_cons (pe_op op_add (pv 5) (pe_op op_fdiv (pe_op op_add (pv 6) pe_int) pe_int)) pa_nil))))))
    (pss_one (ps_ret (pe_f (ok_pairs_joined S) (hr.mono (by decide)) rfl (glo_pairs_joined S) (pa_cons (pv 1) (pa_cons (pv 3) pa_nil))))))), ?_⟩
  tm_at "go"
  refine ⟨szL rfl, fun D hD => ?_⟩
  have z0 := AccI.nil (g := cM n s d) hD
  tm_at "go"
  refine gE1 (SqL.of (z0.1 _ _ hb)) ?_
  refine forIt (wEnum2 (n := n / 2) (f := fun i => .int (d i))) (fun i σ H' => AccI H D i (cM n s d) H' ∧ ∃ v1 v2 v3, σ = [some x0, some (.ref a), some (.ref b), some (.ref D), v1, v2, v3])
    ⟨z0, none, none, none, rfl⟩ (fun i σ H' _ zz => SqL.of (zz.1.1 _ _ hb)) ?_ ?_
  · rintro i x σ H6 H7 hi ⟨zz, v1, v2, v3, rfl⟩ ⟨T, rfl, hT, s7, eT⟩
    refine gTp (SqT.of eT) rfl ?_
    replace zz := zz.step s7
    tm_at "go"
    refine ⟨_, _, rfl, ?_⟩
    refine gIxL (SqL.of (zz.1 _ _ ha)) (at_tabI (i := (max 0 ((i : Int) - 1)).toNat) (by split <;> omega) (by unfold hf; omega)) ?_
    tm_at "go"
    refine ⟨a, hf n, s, _, rfl, zz.1 _ _ ha, by unfold hf; omega, by unfold hf; omega, ?_⟩
    tm_at "go"
    refine ⟨.inl ⟨rfl, _, SqL.of zz.2⟩, ?_⟩
    tm_at "go"
    exact ⟨D, _, _, rfl, rfl, zz.2, ir_lt hn (by omega), zz.push hD rfl, _, _, _, rfl⟩
  · rintro σ H6 ⟨zz, v1, v2, v3, rfl⟩
    tm_at "go"
    exact ⟨a, D, n, s, _, rfl, zz.1 _ _ ha, zz.2, h2, hn, fun R H8 s8 h8 e8 => q R _ (zz.1.trans s8) (zz.1.free h8) e8⟩
theorem ok_GuessCarrier_carried_on (S : TX K mg) : OkF P w K mg base 2 (He.ma K (He.ga K "GuessCarrier") "carried_on") (p_three (cb .guess)) := by
  refine okF (F_GuessCarrier_carried_on S) sc_GuessCarrier_carried_on (by tm_at "len") (fun _ _ _ _ _ _ us hl => match us, hl with | [_, _, _], _ => rfl) (fun cdv A outer s H vs Q E hr h => ?_)
  obtain ⟨x0, a, b, n, s, d, rfl, ha, hb, h2, hn, q⟩ := h
  refine ⟨_, (pss_cons (ps_set (i := 3) sc_GuessCarrier_carried_on.nd rfl (Or.inl rfl) (pe_lst pa_nil))
    (pss_cons (ps_for PassesOwn.never rfl (kEnum (K := K) rfl rfl (fr_enumerate S) (pa_cons (pv 1) pa_nil)) (kPTup (K := K) (n := 2) rfl rfl (pgs_cons (pg_name (i := 4) sc_GuessCarrier_carried_on.nd rfl (Or.inl rfl)) (pgs_cons (pg_name (i := 5) sc_GuessCarrier_carried_on.nd rfl (Or.inl rfl)) pgs_nil))) (pss_one (ps_expr (kBM (K := K) rfl PySem.F.plainAttrs_list PySem.F.slot_list_append PySem.F.type_list_append mt_append (pv 3) (pa_cons (pe_op op_add (pv 5) (pe_op op_fdiv (pe_op op_add (pe_op op_add (pe_f (ok_nearest S) (hr.mono (by decide)) rfl (glo_nearest S) (pa_cons (pv 2) (pa_cons (pe_op op_sub (pv 4) pe_int) pa_nil))) (pe_f (ok_nearest S) (hr.mono (by decide)) rfl (glo_nearest S) (pa_cons (pv 2) (pa_cons (pv 4) pa_nil)))) pe_int) pe_int)) pa_nil)))))
    (pss_cons (ps_set (i := 6) sc_GuessCarrier_carried_on.nd rfl (Or.inl rfl) (pe_lst pa_nil))
    (pss_cons (ps_for PassesOwn.never rfl (kEnum (K := K) rfl rfl (fr_enumerate S) (pa_cons (pv 3) pa_nil)) (kPTup (K := K) (n := 2) rfl rfl (pgs_cons (pg_name (i := 4) sc_GuessCarrier_carried_on.nd rfl (Or.inl rfl)) (pgs_cons (pg_name (i := 7) sc_GuessCarrier_carried_on.nd rfl (Or.inl rfl)) pgs_nil))) (pss_cons (ps_expr (kBM (K := K) rfl PySem.F.plainAttrs_list PySem.F.slot_list_append PySem.F.type_list_append mt_append (pv 6) (pa_cons (pv 7) pa_nil)))
    (pss_one (ps_if (pt_cmpR op_lt (pv 4) (pe_callB (kLen (K := K) rfl) rfl (fr_len S) bt_len (pa_cons (pv 2) pa_nil)) (nomark _)) (pss_one (ps_expr (kBM (K := K) rfl PySem.F.plainAttrs_list PySem.F.slot_list_append PySem.F.type_list_append mt_append (pv 6) (pa_cons (pe_op op_add (pe_ix (kIxL (K := K) rfl) (pv 2) (pv 4) (fun _ _ => rfl)) (pe_op op_fdiv (pe_op op_add (pe_op op_add (pv 7) (pe_f (ok_nearest S) (hr.mono (by decide)) rfl (glo_nearest S) (pa_cons (pv 3) (pa_cons (pe_op op_add (pv 4) pe_int) pa_nil)))) pe_int) pe_int)) pa_nil)))) pss_nil))))
    (pss_one (ps_ret (pv 6))))))), ?_⟩
  tm_at "go"
  refine ⟨szL rfl, fun B hB => ?_⟩
  have z0 := AccI.nil (g := cF n s d) hB
  tm_at "go"
  refine gE1 (SqL.of (z0.1 _ _ ha)) ?_
  refine forIt (wEnum2 (n := hf n) (f := fun i => .int (s i))) (fun i σ H' => AccI H B i (cF n s d) H' ∧ ∃ v1 v2, σ = [some x0, some (.ref a), some (.ref b), some (.ref B), v1, v2, none, none])
    ⟨z0, none, none, rfl⟩ (fun i σ H' _ zz => SqL.of (zz.1.1 _ _ ha)) ?_ ?_
  · rintro i x σ H6 H7 hi ⟨zz, v1, v2, rfl⟩ ⟨T, rfl, hT, s7, eT⟩
    refine gTp (SqT.of eT) rfl ?_
    replace zz := zz.step s7
    tm_at "go"
    refine ⟨.inl ⟨rfl, _, SqL.of zz.2⟩, ?_⟩
    tm_at "go"
    refine ⟨b, n / 2, d, _, rfl, zz.1 _ _ hb, by omega, by omega, ?_⟩
    tm_at "go"
    refine ⟨b, n / 2, d, _, rfl, zz.1 _ _ hb, by omega, by omega, ?_⟩
    tm_at "go"
    exact ⟨B, _, _, rfl, rfl, zz.2, ir_lt (n := 64) (by omega) (by unfold hf at hi; omega), zz.push hB rfl, _, _, rfl⟩
  · rintro σ H6 ⟨zz, v1, v2, rfl⟩
    tm_at "go"
    refine ⟨szL rfl, fun D hD => ?_⟩
    generalize hg5 : upd _ _ _ = H5
    obtain ⟨s5, eD⟩ := newF hg5 hD
    tm_at "go"
    refine gE1 (SqL.of (s5 _ _ zz.2)) ?_
    refine forIt (wEnum2 (n := hf n) (f := fun i => .int (cF n s d i))) (fun i σ H' => AccI H6 D (min (2 * i) n) (cb .guess n s d) H' ∧ ∃ v1 v2 v3, σ = [some x0, some (.ref a), some (.ref b), some (.ref B), v1, v2, some (.ref D), v3])
      ⟨⟨s5, by rw [show min (2 * 0) n = 0 by omega]; exact eD⟩, _, _, none, rfl⟩ (fun i σ H' _ z3 => SqL.of (z3.1.1 _ _ zz.2)) ?_ ?_
    · rintro i x σ H7 H8 hi ⟨z3, v1, v2, v3, rfl⟩ ⟨T, rfl, hT, s8, eT⟩
      refine gTp (SqT.of eT) rfl ?_
      replace z3 := z3.step s8
      have hi2 : 2 * i < n := by unfold hf at hi; omega
      rw [show min (2 * i) n = 2 * i by omega] at z3
      tm_at "go"
      refine ⟨.inl ⟨rfl, _, SqL.of z3.2⟩, ?_⟩
      tm_at "go"
      refine ⟨D, _, _, rfl, rfl, z3.2, ir_lt hn (by omega), ?_⟩
      have z4 := z3.push hD (v := .int (cF n s d i)) (by rw [cb_g_e])
      generalize upd _ _ _ = H9 at z4 ⊢
      tm_at "go"
      refine ⟨_, n / 2, rfl, .inl ⟨_, SqL.of (z4.1 _ _ (zz.1 _ _ hb)), tab_len.symm⟩, ?_⟩
      tm_at "go"
      by_cases h3 : i < n / 2
      · refine gIfT (decide_eq_true (by omega)) ?_
        tm_at "go"
        refine ⟨.inl ⟨rfl, _, SqL.of z4.2⟩, ?_⟩
        tm_at "go"
        refine gIxL (SqL.of (z4.1 _ _ (zz.1 _ _ hb))) (at_tab h3) ?_
        tm_at "go"
        refine ⟨B, hf n, cF n s d, _, rfl, z4.1 _ _ zz.2, by omega, by unfold hf; omega, ?_⟩
        tm_at "go"
        have z5 := z4.push hD (v := .int (d i + (cF n s d i + nr (hf n) (cF n s d) ((i : Int) + 1) + 1) / 2)) (by rw [cb_g_o])
        refine ⟨D, _, _, rfl, rfl, z4.2, ir_lt hn (by omega), ?_⟩
        rw [show min (2 * (i + 1)) n = 2 * i + 1 + 1 by omega]
        exact ⟨z5, _, _, _, rfl⟩
      · refine gIfF (decide_eq_false (by omega)) ?_
        tm_at "go"
        rw [show min (2 * (i + 1)) n = 2 * i + 1 by omega]
        exact ⟨z4, _, _, _, rfl⟩
    · rintro σ H7 ⟨z3, v1, v2, v3, rfl⟩
      tm_at "go"
      rw [show min (2 * hf n) n = n by unfold hf; omega] at z3
      exact q D _ (zz.1.trans z3.1) (zz.1.free hD) z3.2
/-- a method of the rule at a -/
theorem dyn_parted (S : TX K mg) {H : Hp} {a : Addr} {r : Rl} (h : RuleAt K H a r) : ∃ C dx f, H a = some (.ins C dx []) ∧ Cls K C ∧ Meth K C "parted" f ∧ OkF P w K mg base 6 f (p_parted r) := by
  obtain ⟨dx, e⟩ := h
  cases r with
  | sum => exact ⟨_, dx, _, e, cls_Sums S, me_Sums_parted S, (ok_Sums_parted S).mono (by decide)⟩
  | half => exact ⟨_, dx, _, e, cls_Halves S, me_Halves_parted S, (ok_Halves_parted S).mono (by decide)⟩
  | guess => exact ⟨_, dx, _, e, cls_Guessed S, me_Guessed_parted S, (ok_Guessed_parted S).mono (by decide)⟩
  | lean => exact ⟨_, dx, _, e, cls_Leaning S, me_Leaning_parted S, (ok_Leaning_parted S).mono (by decide)⟩
theorem dyn_joined (S : TX K mg) {H : Hp} {a : Addr} {r : Rl} (h : RuleAt K H a r) : ∃ C dx f, H a = some (.ins C dx []) ∧ Cls K C ∧ Meth K C "joined" f ∧ OkF P w K mg base 6 f (p_three (bk r)) := by
  obtain ⟨dx, e⟩ := h
  cases r with
  | sum => exact ⟨_, dx, _, e, cls_Sums S, me_Sums_joined S, (ok_Sums_joined S).mono (by decide)⟩
  | half => exact ⟨_, dx, _, e, cls_Halves S, me_Halves_joined S, (ok_Halves_joined S).mono (by decide)⟩
  | guess => exact ⟨_, dx, _, e, cls_Guessed S, me_Guessed_joined S, (ok_Guessed_joined S).mono (by decide)⟩
  | lean => exact ⟨_, dx, _, e, cls_Leaning S, me_Leaning_joined S, (ok_Leaning_joined S).mono (by decide)⟩
theorem dyn_word (S : TX K mg) {H : Hp} {a : Addr} {r : Rl} (h : RuleAt K H a r) : ∃ C dx f, H a = some (.ins C dx []) ∧ Cls K C ∧ Meth K C "word" f ∧ OkF P w K mg base 6 f (p_word r) := by
  obtain ⟨dx, e⟩ := h
  cases r with
  | sum => exact ⟨_, dx, _, e, cls_Sums S, me_Sums_word S, (ok_Sums_word S).mono (by decide)⟩
  | half => exact ⟨_, dx, _, e, cls_Halves S, me_Halves_word S, (ok_Halves_word S).mono (by decide)⟩
  | guess => exact ⟨_, dx, _, e, cls_Guessed S, me_Guessed_word S, (ok_Guessed_word S).mono (by decide)⟩
  | lean => exact ⟨_, dx, _, e, cls_Leaning S, me_Leaning_word S, (ok_Leaning_word S).mono (by decide)⟩
theorem dyn_carried (S : TX K mg) {H : Hp} {a : Addr} {r : Rl} (h : CarAt K H a r) : ∃ C dx f, H a = some (.ins C dx []) ∧ Cls K C ∧ Meth K C "carried_on" f ∧ OkF P w K mg base 6 f (p_three (cb r)) := by
  obtain ⟨dx, e⟩ := h
  cases r with
  | sum => exact ⟨_, dx, _, e, cls_SumCarrier S, me_SumCarrier_carried_on S, (ok_SumCarrier_carried_on S).mono (by decide)⟩
  | half => exact ⟨_, dx, _, e, cls_HalfCarrier S, me_HalfCarrier_carried_on S, (ok_HalfCarrier_carried_on S).mono (by decide)⟩
  | guess => exact ⟨_, dx, _, e, cls_GuessCarrier S, me_GuessCarrier_carried_on S, (ok_GuessCarrier_carried_on S).mono (by decide)⟩
  | lean => exact ⟨_, dx, _, e, cls_LeanCarrier S, me_LeanCarrier_carried_on S, (ok_LeanCarrier_carried_on S).mono (by decide)⟩
theorem ok_carrier_of (S : TX K mg) : OkF P w K mg base 7 (He.ga K "carrier_of") (p_carrier_of K) := by
  refine okF (F_carrier_of S) sc_carrier_of (by tm_at "len") (fun _ _ _ _ _ _ us hl => match us, hl with | [_], _ => rfl) (fun cdv A outer s H vs Q E hr h => ?_)
  obtain ⟨r, rfl, q⟩ := h
  refine ⟨_, (pss_cons (ps_set (i := 1) sc_carrier_of.nd rfl (Or.inl rfl) (pe_d0 (k := 6) (m := "word") (pe_f (ok_rule_of S) (hr.mono (by decide)) rfl (glo_rule_of S) (pa_cons (pv 0) pa_nil)) (hr.mono (by decide))))
    (pss_cons (ps_if (pt_cmpR op_eq (pv 1) pe_str (nomark _)) (pss_one (ps_ret (pe_new (noi_SumCarrier S) rfl (glo_SumCarrier S)))) pss_nil)
    (pss_cons (ps_if (pt_cmpR op_eq (pv 1) pe_str (nomark _)) (pss_one (ps_ret (pe_new (noi_HalfCarrier S) rfl (glo_HalfCarrier S)))) pss_nil)
    (pss_cons (ps_if (pt_cmpR op_eq (pv 1) pe_str (nomark _)) (pss_one (ps_ret (pe_new (noi_GuessCarrier S) rfl (glo_GuessCarrier S)))) pss_nil)
    (pss_one (ps_ret (pe_new (noi_LeanCarrier S) rfl (glo_LeanCarrier S)))))))), ?_⟩
  tm_at "go"
  refine ⟨r, rfl, fun ra H1 s1 hra hr1 => ?_⟩
  obtain ⟨C, dx, f, e, c, m, o⟩ := dyn_word S hr1
  refine ⟨ra, C, dx, [], f, _, rfl, e, rfl, c, m, o, ?_⟩
  tm_at "go"
  refine ⟨_, rfl, ?_⟩
  have s2 : ∀ {x dx : Addr} {C : Addr}, H1 x = none → H1 dx = none → dx ≠ x → Same H (upd (upd H1 dx (.own x)) x (.ins C dx [])) := fun h1 h2 n => (s1.trans (Same.new h2)).trans (Same.new (by rw [upd_ne n.symm]; exact h1))
  cases r with
  | sum =>
    tm_at "go"
    exact fun x dx h1 h2 n => q x _ (s2 h1 h2 n) (s1.free h1) ⟨dx, upd_same⟩
  | half =>
    tm_at "go"
    exact fun x dx h1 h2 n => q x _ (s2 h1 h2 n) (s1.free h1) ⟨dx, upd_same⟩
  | guess =>
    tm_at "go"
    exact fun x dx h1 h2 n => q x _ (s2 h1 h2 n) (s1.free h1) ⟨dx, upd_same⟩
  | lean =>
    tm_at "go"
    exact fun x dx h1 h2 n => q x _ (s2 h1 h2 n) (s1.free h1) ⟨dx, upd_same⟩
end
end Kp
/-! xs[:n] = ys -/
namespace Kp
open PySem PySem.Spec PyProof.Rows L2
theorem bnd0 {k m : Nat} (hk : k ≤ m) : sliceBounds none (some (k : Int)) none m = ((0 : Int), (k : Int), 1) := by
  have h2 : ¬ ((k : Int) < 0) := by omega
  simp only [sliceBounds, Option.getD_none, h2, if_false, show (1 : Int) > 0 by decide, if_true]
  refine Prod.ext rfl (Prod.ext ?_ rfl)
  show max 0 (min (k : Int) (m : Int)) = (k : Int)
  omega
section
variable {prog : Program} {w : World} {A : Around} {E : Value → Shared → Prop} {s : Shared}
set_option maxRecDepth 100000 in
theorem put_head {p d c : Addr} {old new : Array Value} {i j : Nat} {v0 v1 : Value} {k : Nat} {Q : Unit → Shared → Prop} (e : s.heap.get? p = some { cls := .type "list", data := .seq old i }) (e2 : s.heap.get? d = some { cls := .type "list", data := .seq new j }) (pd : p ≠ d)
    (hc : s.heap.IsSliceOf c v0 v1 .none) (p0 : IsPart v0 none) (p1 : IsPart v1 (some (k : Int))) (hk : k ≤ old.size) (hz : old.size + new.size ≤ sizeLine) (h : Q () { s with heap := s.heap.update p (Obj.mapSeq fun xs => xs.extract 0 0 ++ new ++ xs.extract k xs.size) }) : wpAny (model prog w) A (setItem (.ref p) (.ref c) (.ref d)) Q E s := by
  have tl := (PySem.IsL.isList e).typeIs; have td := (PySem.IsL.isList e2).typeIs; obtain ⟨oc, ho, hcl, hda⟩ := id hc
  have tc : s.TypeIs (.ref c) "slice" := ⟨oc, ho, hcl⟩
  have nostep : ¬ ((rawPart none == rawInt 0) = true) := Bool.false_ne_true
  have nosame : Builtin.List.listSameRef (.ref p) (.ref d) = false := by unfold Builtin.List.listSameRef; exact beq_eq_false_iff_ne.mpr pd
  have big : ((fun xs : Array Value => xs.extract 0 0 ++ new ++ xs.extract k xs.size) old).size ≤ sizeLine + 1 := by simp only [Array.size_append, Array.size_extract]; omega
  have mx : (max (0 : Int) (k : Int)).toNat = k := by omega
  unfold setItem; try with_reducible refine wpAny_holding ?_
  first | refine wpAny_bind (wpAny_pure ?_) | skip
  refine wpAny_bind (wpAny_sequenceKey tl (by decide) ?_); refine wpAny_bind (wpAny_callSpecial?_slot (name := Str.ofString "__setitem__") tl slot_list_setitem (wpAny_call_entry slot_list_setitem tl entry_list_setitem ?_ (args_list_setitem _ _ _)))
  show wpAny _ _ (Builtin.List.listSubscript? (.ref c) >>= _) _ _ s
  refine wpAny_bind ?_; unfold Builtin.List.listSubscript?; refine wpAny_bind (wpAny_specialOf tc slice_no_index ?_)
  simp only [Option.isNone_none, if_true]; refine wpAny_pure ?_
  show wpAny _ _ (typeOf (.ref c) >>= _) _ _ s
  refine wpAny_bind (wpAny_typeOf tc ?_); first | rw [if_neg (by decide)] | refine PySem.W.KFB.if_not (by decide) ?_
  rw [listSliceParts_eq]; refine wpAny_bind (wpAny_bind (wpAny_field ho hda (x := .none) rfl (wpAny_bind (wpAny_listPart .none ?_)))); rw [if_neg nostep]
  refine wpAny_bind (wpAny_field ho hda (x := v0) rfl (wpAny_bind (wpAny_listPart p0 ?_))); refine wpAny_bind (wpAny_field ho hda (x := v1) rfl (wpAny_bind (wpAny_listPart p1 (wpAny_pure ?_))))
  first | simp only [nosame, Bool.false_eq_true, if_false] | refine PySem.W.KFB.if_not nosame ?_ | (dsimp only; rw [if_neg (by rw [nosame]; exact Bool.false_ne_true)])
  refine wpAny_bind (m := Builtin.List.listAllItems (.ref d) "must assign iterable to extended slice") ?_; unfold Builtin.List.listAllItems; refine wpAny_bind (wpAny_typeOf td ?_)
  first | refine PySem.W.KFB.if_so (by decide) ?_ | rw [if_pos (by decide)] | simp only [beq_self_eq_true, Bool.true_or, if_true]
  unfold Builtin.List.listItems; refine wpAny_bind (wpAny_seqItems e2 rfl (wpAny_pure ?_)); refine wpAny_bind (wpAny_bind (wpAny_seqItems e rfl (wpAny_pure ?_)))
  refine wpAny_bind (wpAny_of_eq ((sliceIndices_raw none (some (k : Int)) none old.size (by simp)).trans (congrArg (pure : Int × Int × Int → Sem (Int × Int × Int)) (bnd0 hk))) ?_)
  show wpAny _ _ (if ((1 : Int) == 1) = true then _ else _) _ _ s; rw [if_pos (by decide)]; refine wpAny_bind (wpAny_rule ?_)
  first | simp only [notLongL hz, Bool.false_eq_true, if_false] | refine PySem.W.KFB.if_not (notLongL hz) ?_
  first | refine wpAny_bind (wpAny_pure ?_) | skip
  show wpAny _ _ (updateSeq p (fun xs => xs.extract 0 ((0 : Int)).toNat ++ new ++ xs.extract (max (0 : Int) (k : Int)).toNat xs.size) >>= _) _ _ s
  rw [mx]; refine wpAny_bind (wpAny_updateSeq (hz := Nat.le_trans (Nat.le_add_right _ _) hz) (_hz' := big) e rfl ?_); refine wpAny_bind (wpAny_letGo ?_)
  first | exact wpAny_bind (wpAny_pure (wpAny_pure ⟨.none, rfl, wpAny_pure h⟩)) | exact wpAny_pure ⟨.none, rfl, wpAny_pure h⟩
end
def gSlc (to : TE) (tu : TO) : TG := fun v σ H Q => to σ H fun x H1 => tu σ H1 fun o H2 => ∃ (p d : Addr) (xs ys : List V) (k : Nat), x = .ref p ∧ v = .ref d ∧ o = some (k : Int) ∧ H2 p = some (.lst xs) ∧ H2 d = some (.lst ys) ∧ p ≠ d ∧ k ≤ xs.length ∧ xs.length + ys.length ≤ sizeLine ∧ Q σ (upd H2 p (.lst (ys ++ xs.drop k)))
theorem gSlcE {to : TE} {tu : TO} {v : V} {σ : L2.St} {H : Hp} {Q : L2.St → Hp → Prop} (h : to σ H fun x H1 => tu σ H1 fun o H2 => ∃ (p d : Addr) (xs ys : List V) (k : Nat), x = .ref p ∧ v = .ref d ∧ o = some (k : Int) ∧ H2 p = some (.lst xs) ∧ H2 d = some (.lst ys) ∧ p ≠ d ∧ k ≤ xs.length ∧ xs.length + ys.length ≤ sizeLine ∧ Q σ (upd H2 p (.lst (ys ++ xs.drop k)))) : gSlc to tu v σ H Q := h
theorem pg_slc {X : Cx} {o : Expr} {hi : Option Expr} {to : TE} {tu : TO} {p2 pos : Pos} (ho : PE X o to) (hu : PO X hi tu)
    (ha : ∀ v, assign (.Subscript o (.Slice none hi none p2) pos) X.env v = (do
      let a ← holding [v] (eval o X.env)
      let b ← holding [v, a] (eval (.Slice none hi none p2) X.env)
      standAt pos; holding [v, a, b] (setItem a b v); release [b, v, a] []) := by intro _; rfl) : PG X (.Subscript o (.Slice none hi none p2) pos) (gSlc to tu) := by
  refine ⟨fun pins s σ H v u Q I r h => ?_⟩
  rw [ha]
  refine wpAny_bind (wpAny_holding (thn (ho.run pins s σ H _ I h) fun a s1 ⟨x, H1, I1, r1, q1⟩ => ?_))
  refine wpAny_bind (wpAny_holding (wpAny_Slice (thn (po_none.run pins s1 σ H1 (fun o H2 => o = none ∧ H2 = H1) I1 ⟨rfl, rfl⟩) fun v0 s2 ⟨l, H2, I2, pl, el, e2⟩ => ?_)))
  subst el e2
  refine thn (hu.run pins s2 σ H2 _ I2 q1) fun v1 s3 ⟨o1, H3, I3, pu, p, d, xs, ys, k, ex, ev, ei, hp, hd, pd, hk, hz, q⟩ => ?_
  subst ex ev ei
  cases r1
  cases r
  rw [evalPart_none]
  refine wpAny_pure ?_
  have I4 : L2.Inv X pins σ H3 { s3 with heap := s3.heap.push { cls := .type "slice", data := .fields #[v0, v1, .none] } } := I3.kept (t' := s3.toks) fun b ob z => Heap.get?_push_of_some _ z
  obtain ⟨z1, its, n, r, hl, e⟩ := I4.lstM hp
  obtain ⟨z2, its2, n2, r2, hl2, e2⟩ := I4.lstM hd
  refine wpAny_bind (wpAny_standAt (wpAny_bind (wpAny_holding (put_head e e2 pd (Heap.IsSliceOf.new _ v0 v1 .none) pl pu (by rw [List.size_toArray]; omega) (by rw [List.size_toArray, List.size_toArray]; omega) (wpAny_release ⟨σ, _, ?_, q⟩)))))
  refine I4.lset (its' := its2 ++ its.drop k) (t' := s3.toks) hp e ?_ (Vals.append r2 (r.drop _)) ?_
  · have z := splice_eq its its2 0 k
    rw [List.take_zero, List.nil_append] at z
    exact z
  · rw [List.length_append, List.length_drop]
    omega
end Kp
local macro_rules | `(tactic| tm_at "go") => `(tactic| repeat (first | (with_reducible first | refine Kp.gSeq ?_ | refine Kp.gAsg ?_ | refine Kp.gNm ?_ | refine Kp.gOp ?_ | refine Kp.gC ?_ | refine Kp.gI0 ?_ | refine Kp.gCons0 ?_ | refine Kp.gNil0 ?_ | refine Kp.gTest ?_ | refine Kp.gBl ?_ | refine Kp.gIfS ?_ | refine Kp.gB ?_ | refine Kp.gRet ?_ | refine Kp.gNext ?_ | refine Kp.gFn ?_ | refine Kp.gMeth ?_ | refine Kp.gMk ?_ | refine Kp.gCB ?_ | refine Kp.gFld ?_ | refine Kp.gNot ?_ | refine Kp.gOr ?_ | refine Kp.gAnd ?_ | refine Kp.gChain ?_ | refine Kp.gUn ?_ | refine Kp.gU ?_ | refine Kp.gTupE ?_ | refine Kp.gLstE ?_ | refine Kp.gDrop ?_ | refine Kp.gBM ?_ | refine Kp.gSl ?_ | refine Kp.gNoP ?_ | refine Kp.gPart ?_ | refine Kp.gPartE ?_ | refine Kp.gFor ?_ | refine Kp.gLc ?_ | refine Kp.gYes ?_ | refine Kp.gSFld ?_ | refine Kp.gSb ?_ | refine Kp.gCs ?_ | refine Kp.gNl ?_ | refine Kp.gIL ?_ | refine Kp.gITup ?_ | refine Kp.gIR1 ?_ | refine Kp.gIR2 ?_ | refine Kp.gIE ?_ | refine Kp.gIZ ?_ | refine Kp.gIS ?_ | refine Kp.gAndV ?_ | refine Kp.gOrV ?_ | refine Kp.gNotV ?_ | refine Kp.gS1 ?_ | refine Kp.gDyn ?_ | refine Kp.gStp ?_ | refine Kp.gSlcE ?_ | refine Kp.gRv ?_ | refine Kp.gRg1 ?_ | refine Kp.gRg2 ?_ | refine Kp.gD2 ?_ | refine Kp.gD4 ?_ | refine Kp.gM2 ?_ | refine Kp.gBreak ?_ | refine Kp.gCont ?_ | refine Kp.gRetN ?_) | ((with_reducible apply Kp.gVar); (focus exact rfl)) | ((with_reducible refine Kp.gIfT ?_ ?_); (focus exact rfl)) | ((with_reducible refine Kp.gIfF ?_ ?_); (focus exact rfl)) | ((with_reducible refine Kp.gEq ?_ ?_); (focus exact rfl)) | ((with_reducible refine Kp.gNe ?_ ?_); (focus exact rfl)) | ((with_reducible apply Kp.gIsi); (focus (first | exact Kp.Isi.ii | exact Kp.Isi.ib | exact Kp.Isi.ss | exact Kp.Isi.ll (by assumption) | exact Kp.Isi.tt (by assumption))))))
local macro_rules | `(tactic| tm_at "gi") => `(tactic| repeat (first | (with_reducible first | refine Kp.gAsg ?_ | refine Kp.gNm ?_ | refine Kp.gOp ?_ | refine Kp.gC ?_ | refine Kp.gI0 ?_ | refine Kp.gTest ?_ | refine Kp.gBl ?_ | refine Kp.gIfS ?_ | refine Kp.gAnd ?_ | refine Kp.gRet ?_ | refine Kp.gNext ?_ | refine Kp.gMeth ?_ | refine Kp.gFld ?_ | refine Kp.gCons0 ?_ | refine Kp.gNil0 ?_) | ((with_reducible apply Kp.gVar); (focus exact rfl)) | ((with_reducible refine Kp.gIfT ?_ ?_); (focus exact rfl)) | ((with_reducible refine Kp.gIfF ?_ ?_); (focus exact rfl)) | ((with_reducible refine Kp.gEq ?_ ?_); (focus exact rfl))))
/-! halving, putting back, carrying errors: rows changed in place -/
namespace Kp
open PySem PySem.Spec L2
structure RowsX (H : Hp) (a : Addr) (ra : Nat → Addr) (h w : Nat) (g : G2) : Prop where
  rows : Rows H a ra h w g
  ne : ∀ y, y < h → ra y ≠ a
  inj : ∀ i j, i < h → j < h → ra i = ra j → i = j
def rs (ra : Nat → Addr) (h : Nat) : Addr → Prop := fun b => ∃ y, y < h ∧ b = ra y
section
variable {H0 H H' : Hp} {a : Addr} {ra : Nat → Addr} {h w y : Nat} {g g' : G2}
theorem RowsX.of (x : NewL H0 H a h ra fun y => .lst (irow w (g y))) : RowsX H a ra h w g := ⟨⟨x.top, x.it⟩, x.ne, x.inj⟩
theorem RowsX.same (R : RowsX H a ra h w g) (s : Same H H') : RowsX H' a ra h w g := ⟨R.rows.same s, R.ne, R.inj⟩
theorem RowsX.congr (R : RowsX H a ra h w g) (e : ∀ y x, y < h → x < w → g y x = g' y x) : RowsX H a ra h w g' := ⟨⟨R.rows.top, fun y hy => by rw [R.rows.row y hy, ir_congr fun x hx => e y x hy hx]⟩, R.ne, R.inj⟩
theorem RowsX.put {xs : List V} (R : RowsX H a ra h w g) (hy : y < h) (e : xs = irow w (g' y)) (k : ∀ z x, z < h → z ≠ y → x < w → g z x = g' z x) : RowsX (upd H (ra y) (.lst xs)) a ra h w g' := by
  refine ⟨⟨by rw [upd_ne (R.ne y hy).symm]; exact R.rows.top, fun z hz => ?_⟩, R.ne, R.inj⟩
  by_cases q : z = y
  · rw [q, upd_same, e]
  · rw [upd_ne fun q2 => q (R.inj _ _ hz hy q2), R.rows.row z hz, ir_congr fun x hx => k z x hz q hx]
theorem rs_out {b : Addr} {o : HO} (R : Rows H a ra h w g) (e : H b = some o) (n : ∀ xs, o ≠ .lst xs) : ¬ rs ra h b := fun ⟨y, hy, q⟩ => by
  rw [q, R.row y hy] at e
  injection e with e
  exact n _ e.symm
end
def p_mut (T : Hp → Addr → Rl → Prop) (F : Rl → Nat × Nat → G2 → G2) (nd : Nat × Nat → Prop) : Pm := fun vs H Q => ∃ (p a c : Addr) (r : Rl) (ra : Nat → Addr) (h w : Nat) (g : G2) (cc : Nat × Nat), vs = [.ref p, .ref a, .ref c] ∧ T H p r ∧ RowsX H a ra h w g ∧ Sz h w ∧ H c = some (cT cc) ∧
  (cc.1 ≤ h ∧ cc.2 ≤ w ∧ nd cc) ∧ ∀ H', Kept (rs ra h) H H' → RowsX H' a ra h w (F r cc g) → Q .non H'
theorem keptR {K : PySem.W.Frag} {H H' : Hp} {a p : Addr} {ra : Nat → Addr} {h w : Nat} {g : G2} {r : Rl} (R : Rows H a ra h w g) (f : RuleAt K H p r) (k : Kept (rs ra h) H H') : RuleAt K H' p r := let ⟨dx, e⟩ := f; ⟨dx, k _ _ e (rs_out R e fun _ z => by cases z)⟩
theorem keptC {K : PySem.W.Frag} {H H' : Hp} {a p : Addr} {ra : Nat → Addr} {h w : Nat} {g : G2} {r : Rl} (R : Rows H a ra h w g) (f : CarAt K H p r) (k : Kept (rs ra h) H H') : CarAt K H' p r := let ⟨dx, e⟩ := f; ⟨dx, k _ _ e (rs_out R e fun _ z => by cases z)⟩
theorem keptT {H H' : Hp} {a c : Addr} {ra : Nat → Addr} {h w : Nat} {g : G2} {cc : Nat × Nat} (R : Rows H a ra h w g) (e : H c = some (cT cc)) (k : Kept (rs ra h) H H') : H' c = some (cT cc) := k _ _ e (rs_out R e fun _ z => by cases z)
/-- one row's head is told anew -/
theorem row_head {n k : Nat} {f v u : Nat → Int} (hk : k ≤ n) (e1 : ∀ i, i < k → v i = u i) (e2 : ∀ i, i < n → ¬ i < k → f i = u i) : irow k v ++ (irow n f).drop k = irow n u := by
  rw [show irow n f = tab n fun i => .int (f i) from rfl, tab_drop]
  exact ir_app (by omega) e1 fun i hi => by rw [e2 (k + i) (by omega) (by omega)]
section
variable {P : Program} {w : World} {K : PySem.W.Frag} {mg : Str → Option Value} {base : Heap}
theorem ok_rows_halved (S : TX K mg) : OkF P w K mg base 7 (He.ga K "rows_halved") (p_mut (RuleAt K) (fun r => rowsOp (hv r)) (fun c => 2 ≤ c.2)) := by
  refine okF (F_rows_halved S) sc_rows_halved (by tm_at "len") (fun _ _ _ _ _ _ us hl => match us, hl with | [_, _, _], _ => rfl) (fun cdv A outer s H vs Q E hr h => ?_)
  obtain ⟨p, a, c, r, ra, h, n, g, ⟨hc, wc⟩, rfl, ht, R, z, hC, ⟨k1, k2, k3⟩, q⟩ := h
  refine ⟨_, (pss_one (ps_for PassesOwn.never rfl (pi_range1 rfl (fr_range S) (pa_cons (pe_ix (kIxT (K := K) rfl) (pv 2) pe_int (fun _ _ => rfl)) pa_nil)) (pg_name (i := 3) sc_rows_halved.nd rfl (Or.inl rfl)) (pss_cons (ps_asg (pe_d (k := 6) (m := "parted") (pv 0) (hr.mono (by decide)) (pa_cons (pe_slice (kSlL (K := K) rfl) (pe_ix (kIxL (K := K) rfl) (pv 1) (pv 3) (fun _ _ => rfl)) po_none (po_some (pe_ix (kIxT (K := K) rfl) (pv 2) pe_int (fun _ _ => rfl)))) pa_nil)) (kPTup (K := K) (n := 2) rfl rfl (pgs_cons (pg_name (i := 4) sc_rows_halved.nd rfl (Or.inl rfl)) (pgs_cons (pg_name (i := 5) sc_rows_halved.nd rfl (Or.inl rfl)) pgs_nil))))
    (pss_one (ps_asg (pe_op op_cat (pv 4) (pv 5)) (pg_slc (pe_ix (kIxL (K := K) rfl) (pv 1) (pv 3) (fun _ _ => rfl)) (po_some (pe_ix (kIxT (K := K) rfl) (pv 2) pe_int (fun _ _ => rfl))))))))), ?_⟩
  dsimp only at k1 k2 k3
  have zh := z.h2
  have zw := z.w2
  tm_at "go"
  refine gIxT (SqT.of hC) (i := 0) rfl ?_
  tm_at "go"
  refine gR1 (by dsimp only; omega) ?_
  dsimp only
  rw [Int.toNat_natCast]
  refine forIt (wRange (m := hc)) (fun i σ H' => Kept (rs ra h) H H' ∧ RowsX H' a ra h n (rowsOp (hv r) (i, wc) g) ∧ ∃ v1 v2 v3, σ = [some (.ref p), some (.ref a), some (.ref c), v1, v2, v3])
    ⟨Kept.refl _ _, R.congr fun y x _ _ => by unfold rowsOp; rw [if_neg (by omega)], none, none, none, rfl⟩ (fun _ _ _ _ _ => trivial) ?_ ?_
  · rintro i x σ H1 H2 hi ⟨k, R1, v1, v2, v3, rfl⟩ ⟨rfl, rfl⟩
    have hih : i < h := by omega
    tm_at "go"
    obtain ⟨C, dx, f, e, cl, m, o⟩ := dyn_parted S (P := P) (w := w) (base := base) (keptR R.rows ht k)
    refine ⟨p, C, dx, [], f, _, rfl, e, rfl, cl, m, o, ?_⟩
    tm_at "go"
    refine gIxL (SqL.of R1.rows.top) (at_tab hih) ?_
    tm_at "go"
    refine gIxT (SqT.of (keptT R.rows hC k)) (i := 1) rfl ?_
    tm_at "go"
    refine gSlL (SqL.of (R1.rows.row i hih)) fun S1 hS1 => ?_
    generalize hg : upd _ _ _ = H3
    obtain ⟨s3, eS⟩ := newF hg hS1
    rw [show irow n (rowsOp (hv r) (i, wc) g i) = irow n (g i) from ir_congr fun x _ => by unfold rowsOp; rw [if_neg (by omega)], show irow n (g i) = tab n fun x => .int (g i x) from rfl, cut_to (by dsimp only; omega)] at eS
    have kS : Kept (rs ra h) H H3 := k.trans (Kept.of s3)
    tm_at "go"
    refine ⟨_, S1, wc, g i, rfl, eS, k3, by omega, fun t b c2 H4 s4 et eb ec => ?_⟩
    refine gTp (SqT.of et) rfl ?_
    tm_at "go"
    refine ⟨b, c2, _, _, rfl, rfl, eb, ec, by rw [ir_len, ir_len]; exact line_le (by unfold hf; omega), fun D hD => ?_⟩
    generalize hg5 : upd _ _ _ = H5
    obtain ⟨s5, eD⟩ := newF hg5 hD
    have R5 := ((R1.same s3).same s4).same s5
    have k5 := (kS.trans (Kept.of s4)).trans (Kept.of s5)
    rw [show irow (hf wc) (pS r wc (g i)) ++ irow (wc / 2) (pD r wc (g i)) = irow wc (hv r wc (g i)) from ir_app (by unfold hf; omega) (fun j hj => by unfold hv; rw [if_pos hj]) fun j hj => by unfold hv; rw [if_neg (by omega), Nat.add_sub_cancel_left]] at eD
    tm_at "go"
    refine gIxL (SqL.of R5.rows.top) (at_tab hih) ?_
    tm_at "go"
    refine gIxT (SqT.of (keptT R.rows hC k5)) (i := 1) rfl ?_
    tm_at "go"
    refine ⟨ra i, D, _, _, wc, rfl, rfl, rfl, R5.rows.row i hih, eD, fresh_ne ((R1.same s3).same s4 |>.rows.row i hih) hD, by rw [ir_len]; exact k2, by rw [ir_len, ir_len]; exact line_le (by omega), ?_⟩
    refine ⟨k5.mut ⟨i, hih, rfl⟩, R5.put hih (g' := rowsOp (hv r) (i + 1, wc) g) (row_head k2 (fun x hx => ?_) fun x _ hx => ?_) fun y x _ hy _ => ?_, _, _, _, rfl⟩
    · unfold rowsOp; rw [if_pos ⟨by dsimp only; omega, hx⟩]
    · unfold rowsOp; rw [if_neg (by dsimp only; omega), if_neg (by dsimp only; omega)]
    · unfold rowsOp
      dsimp only
      by_cases h1 : y < i ∧ x < wc
      · rw [if_pos h1, if_pos (by omega)]
      · rw [if_neg h1, if_neg (by omega)]
  · rintro σ H1 ⟨k, R1, v1, v2, v3, rfl⟩
    exact q _ k R1
theorem ok_rows_back (S : TX K mg) : OkF P w K mg base 7 (He.ga K "rows_back") (p_mut (RuleAt K) (fun r => rowsOp (bkr r)) (fun c => 2 ≤ c.2)) := by
  refine okF (F_rows_back S) sc_rows_back (by tm_at "len") (fun _ _ _ _ _ _ us hl => match us, hl with | [_, _, _], _ => rfl) (fun cdv A outer s H vs Q E hr h => ?_)
  obtain ⟨p, a, c, r, ra, h, n, g, ⟨hc, wc⟩, rfl, ht, R, z, hC, ⟨k1, k2, k3⟩, q⟩ := h
  refine ⟨_, (pss_cons (ps_set (i := 3) sc_rows_back.nd rfl (Or.inl rfl) (pe_op op_fdiv (pe_op op_add (pe_ix (kIxT (K := K) rfl) (pv 2) pe_int (fun _ _ => rfl)) pe_int) pe_int))
    (pss_one (ps_for PassesOwn.never rfl (pi_range1 rfl (fr_range S) (pa_cons (pe_ix (kIxT (K := K) rfl) (pv 2) pe_int (fun _ _ => rfl)) pa_nil)) (pg_name (i := 4) sc_rows_back.nd rfl (Or.inl rfl)) (pss_one (ps_asg (pe_d (k := 6) (m := "joined") (pv 0) (hr.mono (by decide)) (pa_cons (pe_slice (kSlL (K := K) rfl) (pe_ix (kIxL (K := K) rfl) (pv 1) (pv 4) (fun _ _ => rfl)) po_none (po_some (pv 3))) (pa_cons (pe_slice (kSlL (K := K) rfl) (pe_ix (kIxL (K := K) rfl) (pv 1) (pv 4) (fun _ _ => rfl)) (po_some (pv 3)) (po_some (pe_ix (kIxT (K := K) rfl) (pv 2) pe_int (fun _ _ => rfl)))) pa_nil))) (pg_slc (pe_ix (kIxL (K := K) rfl) (pv 1) (pv 4) (fun _ _ => rfl)) (po_some (pe_ix (kIxT (K := K) rfl) (pv 2) pe_int (fun _ _ => rfl))))))))), ?_⟩
  dsimp only at k1 k2 k3
  have zh := z.h2
  have zw := z.w2
  tm_at "go"
  refine gIxT (SqT.of hC) (i := 1) rfl ?_
  tm_at "go"
  refine gIxT (SqT.of hC) (i := 0) rfl ?_
  tm_at "go"
  rw [hf_int]
  refine gR1 (by dsimp only; omega) ?_
  dsimp only
  rw [Int.toNat_natCast]
  refine forIt (wRange (m := hc)) (fun i σ H' => Kept (rs ra h) H H' ∧ RowsX H' a ra h n (rowsOp (bkr r) (i, wc) g) ∧ ∃ v1, σ = [some (.ref p), some (.ref a), some (.ref c), some (.int (hf wc : Nat)), v1])
    ⟨Kept.refl _ _, R.congr fun y x _ _ => by unfold rowsOp; rw [if_neg (by omega)], none, rfl⟩ (fun _ _ _ _ _ => trivial) ?_ ?_
  · rintro i x σ H1 H2 hi ⟨k, R1, v1, rfl⟩ ⟨rfl, rfl⟩
    have hih : i < h := by omega
    tm_at "go"
    obtain ⟨C, dx, f, e, cl, m, o⟩ := dyn_joined S (P := P) (w := w) (base := base) (keptR R.rows ht k)
    refine ⟨p, C, dx, [], f, _, rfl, e, rfl, cl, m, o, ?_⟩
    tm_at "go"
    refine gIxL (SqL.of R1.rows.top) (at_tab hih) ?_
    tm_at "go"
    refine gSlL (SqL.of (R1.rows.row i hih)) fun S1 hS1 => ?_
    generalize hg : upd _ _ _ = H3
    obtain ⟨s3, eS⟩ := newF hg hS1
    have er : irow n (rowsOp (bkr r) (i, wc) g i) = tab n fun x => .int (g i x) := ir_congr fun x _ => by unfold rowsOp; rw [if_neg (by omega)]
    rw [er, cut_to (by unfold hf; omega)] at eS
    have R3 := R1.same s3
    tm_at "go"
    refine gIxL (SqL.of R3.rows.top) (at_tab hih) ?_
    tm_at "go"
    refine gIxT (SqT.of (keptT R.rows hC (k.trans (Kept.of s3)))) (i := 1) rfl ?_
    tm_at "go"
    refine gSlL (SqL.of (R3.rows.row i hih)) fun S2 hS2 => ?_
    generalize hg4 : upd _ _ _ = H4
    obtain ⟨s4, eS2⟩ := newF hg4 hS2
    rw [er, cut_mid (by unfold hf; omega) (by dsimp only; omega), show wc - hf wc = wc / 2 by unfold hf; omega] at eS2
    tm_at "go"
    refine ⟨_, S1, S2, wc, g i, fun k => g i (hf wc + k), rfl, s4 _ _ eS, eS2, k3, by omega, fun D H5 s5 hD eD => ?_⟩
    tm_at "go"
    have R5 := (R3.same s4).same s5
    have k5 := ((k.trans (Kept.of s3)).trans (Kept.of s4)).trans (Kept.of s5)
    refine gIxL (SqL.of R5.rows.top) (at_tab hih) ?_
    tm_at "go"
    refine gIxT (SqT.of (keptT R.rows hC k5)) (i := 1) rfl ?_
    tm_at "go"
    refine ⟨ra i, D, _, _, wc, rfl, rfl, rfl, R5.rows.row i hih, eD, fresh_ne ((R3.same s4).rows.row i hih) hD, by rw [ir_len]; exact k2, by rw [ir_len, ir_len]; exact line_le (by omega), ?_⟩
    refine ⟨k5.mut ⟨i, hih, rfl⟩, R5.put hih (g' := rowsOp (bkr r) (i + 1, wc) g) (row_head k2 (fun x hx => ?_) fun x _ hx => ?_) fun y x _ hy _ => ?_, _, rfl⟩
    · unfold rowsOp; rw [if_pos ⟨by dsimp only; omega, hx⟩]; rfl
    · unfold rowsOp; rw [if_neg (by dsimp only; omega), if_neg (by dsimp only; omega)]
    · unfold rowsOp
      dsimp only
      by_cases h1 : y < i ∧ x < wc
      · rw [if_pos h1, if_pos (by omega)]
      · rw [if_neg h1, if_neg (by omega)]
  · rintro σ H1 ⟨k, R1, v1, rfl⟩
    exact q _ k R1
theorem ok_along_rows (S : TX K mg) : OkF P w K mg base 7 (He.ga K "along_rows") (p_mut (CarAt K) (fun r => rowsOp (cbr r)) (fun c => 2 ≤ c.2)) := by
  refine okF (F_along_rows S) sc_along_rows (by tm_at "len") (fun _ _ _ _ _ _ us hl => match us, hl with | [_, _, _], _ => rfl) (fun cdv A outer s H vs Q E hr h => ?_)
  obtain ⟨p, a, c, r, ra, h, n, g, ⟨hc, wc⟩, rfl, ht, R, z, hC, ⟨k1, k2, k3⟩, q⟩ := h
  refine ⟨_, (pss_cons (ps_set (i := 3) sc_along_rows.nd rfl (Or.inl rfl) (pe_op op_fdiv (pe_op op_add (pe_ix (kIxT (K := K) rfl) (pv 2) pe_int (fun _ _ => rfl)) pe_int) pe_int))
    (pss_one (ps_for PassesOwn.never rfl (pi_range1 rfl (fr_range S) (pa_cons (pe_ix (kIxT (K := K) rfl) (pv 2) pe_int (fun _ _ => rfl)) pa_nil)) (pg_name (i := 4) sc_along_rows.nd rfl (Or.inl rfl)) (pss_one (ps_asg (pe_d (k := 6) (m := "carried_on") (pv 0) (hr.mono (by decide)) (pa_cons (pe_slice (kSlL (K := K) rfl) (pe_ix (kIxL (K := K) rfl) (pv 1) (pv 4) (fun _ _ => rfl)) po_none (po_some (pv 3))) (pa_cons (pe_slice (kSlL (K := K) rfl) (pe_ix (kIxL (K := K) rfl) (pv 1) (pv 4) (fun _ _ => rfl)) (po_some (pv 3)) (po_some (pe_ix (kIxT (K := K) rfl) (pv 2) pe_int (fun _ _ => rfl)))) pa_nil))) (pg_slc (pe_ix (kIxL (K := K) rfl) (pv 1) (pv 4) (fun _ _ => rfl)) (po_some (pe_ix (kIxT (K := K) rfl) (pv 2) pe_int (fun _ _ => rfl))))))))), ?_⟩
  dsimp only at k1 k2 k3
  have zh := z.h2
  have zw := z.w2
  tm_at "go"
  refine gIxT (SqT.of hC) (i := 1) rfl ?_
  tm_at "go"
  refine gIxT (SqT.of hC) (i := 0) rfl ?_
  tm_at "go"
  rw [hf_int]
  refine gR1 (by dsimp only; omega) ?_
  dsimp only
  rw [Int.toNat_natCast]
  refine forIt (wRange (m := hc)) (fun i σ H' => Kept (rs ra h) H H' ∧ RowsX H' a ra h n (rowsOp (cbr r) (i, wc) g) ∧ ∃ v1, σ = [some (.ref p), some (.ref a), some (.ref c), some (.int (hf wc : Nat)), v1])
    ⟨Kept.refl _ _, R.congr fun y x _ _ => by unfold rowsOp; rw [if_neg (by omega)], none, rfl⟩ (fun _ _ _ _ _ => trivial) ?_ ?_
  · rintro i x σ H1 H2 hi ⟨k, R1, v1, rfl⟩ ⟨rfl, rfl⟩
    have hih : i < h := by omega
    tm_at "go"
    obtain ⟨C, dx, f, e, cl, m, o⟩ := dyn_carried S (P := P) (w := w) (base := base) (keptC R.rows ht k)
    refine ⟨p, C, dx, [], f, _, rfl, e, rfl, cl, m, o, ?_⟩
    tm_at "go"
    refine gIxL (SqL.of R1.rows.top) (at_tab hih) ?_
    tm_at "go"
    refine gSlL (SqL.of (R1.rows.row i hih)) fun S1 hS1 => ?_
    generalize hg : upd _ _ _ = H3
    obtain ⟨s3, eS⟩ := newF hg hS1
    have er : irow n (rowsOp (cbr r) (i, wc) g i) = tab n fun x => .int (g i x) := ir_congr fun x _ => by unfold rowsOp; rw [if_neg (by omega)]
    rw [er, cut_to (by unfold hf; omega)] at eS
    have R3 := R1.same s3
    tm_at "go"
    refine gIxL (SqL.of R3.rows.top) (at_tab hih) ?_
    tm_at "go"
    refine gIxT (SqT.of (keptT R.rows hC (k.trans (Kept.of s3)))) (i := 1) rfl ?_
    tm_at "go"
    refine gSlL (SqL.of (R3.rows.row i hih)) fun S2 hS2 => ?_
    generalize hg4 : upd _ _ _ = H4
    obtain ⟨s4, eS2⟩ := newF hg4 hS2
    rw [er, cut_mid (by unfold hf; omega) (by dsimp only; omega), show wc - hf wc = wc / 2 by unfold hf; omega] at eS2
    tm_at "go"
    refine ⟨_, S1, S2, wc, g i, fun k => g i (hf wc + k), rfl, s4 _ _ eS, eS2, k3, by omega, fun D H5 s5 hD eD => ?_⟩
    tm_at "go"
    have R5 := (R3.same s4).same s5
    have k5 := ((k.trans (Kept.of s3)).trans (Kept.of s4)).trans (Kept.of s5)
    refine gIxL (SqL.of R5.rows.top) (at_tab hih) ?_
    tm_at "go"
    refine gIxT (SqT.of (keptT R.rows hC k5)) (i := 1) rfl ?_
    tm_at "go"
    refine ⟨ra i, D, _, _, wc, rfl, rfl, rfl, R5.rows.row i hih, eD, fresh_ne ((R3.same s4).rows.row i hih) hD, by rw [ir_len]; exact k2, by rw [ir_len, ir_len]; exact line_le (by omega), ?_⟩
    refine ⟨k5.mut ⟨i, hih, rfl⟩, R5.put hih (g' := rowsOp (cbr r) (i + 1, wc) g) (row_head k2 (fun x hx => ?_) fun x _ hx => ?_) fun y x _ hy _ => ?_, _, rfl⟩
    · unfold rowsOp; rw [if_pos ⟨by dsimp only; omega, hx⟩]; rfl
    · unfold rowsOp; rw [if_neg (by dsimp only; omega), if_neg (by dsimp only; omega)]
    · unfold rowsOp
      dsimp only
      by_cases h1 : y < i ∧ x < wc
      · rw [if_pos h1, if_pos (by omega)]
      · rw [if_neg h1, if_neg (by omega)]
  · rintro σ H1 ⟨k, R1, v1, rfl⟩
    exact q _ k R1
/-- a pillar is told anew, place by place -/
def colSet (g : G2) (i j : Nat) (v : Nat → Int) : G2 := fun y x => if x = i ∧ y < j then v y else g y x
theorem col_step {H : Hp} {a : Addr} {ra : Nat → Addr} {h w i j : Nat} {g : G2} {v : Nat → Int} {u : V} (R : RowsX H a ra h w (colSet g i j v)) (hj : j < h) (hi : i < w) (e : u = .int (v j)) : RowsX (upd H (ra j) (.lst ((irow w (colSet g i j v j)).set i u))) a ra h w (colSet g i (j + 1) v) := by
  refine R.put hj ?_ fun z x _ hz _ => ?_
  · unfold irow
    rw [tab_set]
    refine tab_congr fun x _ => ?_
    by_cases q : x = i
    · rw [if_pos q, e]
      unfold colSet
      rw [if_pos ⟨q, by omega⟩]
    · rw [if_neg q]
      unfold colSet
      rw [if_neg (fun c => q c.1), if_neg (fun c => q c.1)]
  · unfold colSet
    by_cases q : x = i ∧ z < j
    · rw [if_pos q, if_pos ⟨q.1, by omega⟩]
    · rw [if_neg q, if_neg (fun c => q ⟨c.1, by omega⟩)]
theorem col_done {op : Nat → (Nat → Int) → Nat → Int} {g : G2} {i hc : Nat} : ∀ y x, colSet (pillOp op (hc, i) g) i hc (op hc fun t => g t i) y x = pillOp op (hc, i + 1) g y x := by
  intro y x
  unfold colSet pillOp
  dsimp only
  by_cases q : x = i
  · subst q
    by_cases q2 : y < hc
    · rw [if_pos ⟨rfl, q2⟩, if_pos ⟨q2, by omega⟩]
    · rw [if_neg (fun c => q2 c.2), if_neg (fun c => q2 c.1), if_neg (fun c => q2 c.1)]
  · rw [if_neg (fun c => q c.1)]
    by_cases q3 : y < hc ∧ x < i
    · rw [if_pos q3, if_pos ⟨q3.1, by omega⟩]
    · rw [if_neg q3, if_neg (fun c => q3 ⟨c.1, by omega⟩)]
theorem col_zero {op : Nat → (Nat → Int) → Nat → Int} {g : G2} {i hc : Nat} {v : Nat → Int} : ∀ y x, pillOp op (hc, i) g y x = colSet (pillOp op (hc, i) g) i 0 v y x := by
  intro y x
  unfold colSet
  rw [if_neg (by omega)]
theorem pill_same {op : Nat → (Nat → Int) → Nat → Int} {g : G2} {i hc y : Nat} : pillOp op (hc, i) g y i = g y i := by
  unfold pillOp
  rw [if_neg (by dsimp only; omega)]
theorem ok_pillars_halved (S : TX K mg) : OkF P w K mg base 7 (He.ga K "pillars_halved") (p_mut (RuleAt K) (fun r => pillOp (hv r)) (fun c => 2 ≤ c.1)) := by
  refine okF (F_pillars_halved S) sc_pillars_halved (by tm_at "len") (fun _ _ _ _ _ _ us hl => match us, hl with | [_, _, _], _ => rfl) (fun cdv A outer s H vs Q E hr h => ?_)
  obtain ⟨p, a, c, r, ra, h, n, g, ⟨hc, wc⟩, rfl, ht, R, z, hC, ⟨k1, k2, k3⟩, q⟩ := h
  refine ⟨_, (pss_one (ps_for PassesOwn.never rfl (pi_range1 rfl (fr_range S) (pa_cons (pe_ix (kIxT (K := K) rfl) (pv 2) pe_int (fun _ _ => rfl)) pa_nil)) (pg_name (i := 3) sc_pillars_halved.nd rfl (Or.inr rfl)) (pss_cons (ps_asg (pe_d (k := 6) (m := "parted") (pv 0) (hr.mono (by decide)) (pa_cons (pe_lc (own := [("y", 6)]) (g := gName 6) (tt := tYes) rfl sc_pillars_halved.nd (pi_range1 rfl (fr_range S) (pa_cons (pe_ix (kIxT (K := K) rfl) (pv 2) pe_int (fun _ _ => rfl)) pa_nil)) (blkOk_by (own := [("y", 6)]) (N := ["rule", "rows", "corner", "x", "sums", "differences", "y", "number"]) (sc := defScope s_pillars_halved) (by decide +kernel)) (fun _ _ _ _ _ => (pg_name (i := 6) sc_pillars_halved.nd rfl (Or.inl rfl))) (fun _ _ _ _ _ => pts_nil) (fun _ _ _ _ _ => (pe_ix (kIxL (K := K) rfl) (pe_ix (kIxL (K := K) rfl) (pv 1) (pv 6) (fun _ _ => rfl)) (pv 3) (fun _ _ => rfl)))) pa_nil)) (kPTup (K := K) (n := 2) rfl rfl (pgs_cons (pg_name (i := 4) sc_pillars_halved.nd rfl (Or.inl rfl)) (pgs_cons (pg_name (i := 5) sc_pillars_halved.nd rfl (Or.inl rfl)) pgs_nil))))
    (pss_one (ps_for PassesOwn.never rfl (kEnum (K := K) rfl rfl (fr_enumerate S) (pa_cons (pe_op op_cat (pv 4) (pv 5)) pa_nil)) (kPTup (K := K) (n := 2) rfl rfl (pgs_cons (pg_name (i := 6) sc_pillars_halved.nd rfl (Or.inl rfl)) (pgs_cons (pg_name (i := 7) sc_pillars_halved.nd rfl (Or.inl rfl)) pgs_nil))) (pss_one (ps_asg (pv 7) (pg_sub (pe_ix (kIxL (K := K) rfl) (pv 1) (pv 6) (fun _ _ => rfl)) (pv 3) set_list)))))))), ?_⟩
  dsimp only at k1 k2 k3
  have zh := z.h2
  have zw := z.w2
  tm_at "go"
  refine gIxT (SqT.of hC) (i := 1) rfl ?_
  tm_at "go"
  refine gR1 (by dsimp only; omega) ?_
  dsimp only
  rw [Int.toNat_natCast]
  refine forIt (wRange (m := wc)) (fun i σ H' => Kept (rs ra h) H H' ∧ RowsX H' a ra h n (pillOp (hv r) (hc, i) g) ∧ ∃ v1 v2 v3 v4 v5, σ = [some (.ref p), some (.ref a), some (.ref c), v1, v2, v3, v4, v5])
    ⟨Kept.refl _ _, R.congr fun y x _ _ => by unfold pillOp; rw [if_neg (by omega)], none, none, none, none, none, rfl⟩ (fun _ _ _ _ _ => trivial) ?_ ?_
  · rintro i x σ H1 H2 hi ⟨k, R1, v1, v2, v3, v4, v5, rfl⟩ ⟨rfl, rfl⟩
    have hin : i < n := by omega
    tm_at "go"
    obtain ⟨C, dx, f, e, cl, m, o⟩ := dyn_parted S (P := P) (w := w) (base := base) (keptR R.rows ht k)
    refine ⟨p, C, dx, [], f, _, rfl, e, rfl, cl, m, o, ?_⟩
    tm_at "go"
    refine gIxT (SqT.of (keptT R.rows hC k)) (i := 0) rfl ?_
    tm_at "go"
    refine gR1 (by dsimp only; omega) ?_
    dsimp only
    rw [Int.toNat_natCast]
    intro B hB
    refine lcIt (wRange (m := hc)) (fun j H' => AccI H2 B j (fun t => g t i) H') (AccI.nil hB) (fun _ _ _ _ => trivial) ?_ ?_
    · rintro j x H3 H4 hj zz ⟨rfl, rfl⟩
      tm_at "go"
      refine ⟨rfl, ?_⟩
      tm_at "go"
      have R4 := R1.same zz.1
      refine gIxL (SqL.of R4.rows.top) (at_tab (by omega)) ?_
      tm_at "go"
      refine gIxL (SqL.of (R4.rows.row j (by omega))) (at_tab hin) ?_
      exact ⟨_, zz.2, ir_lt (n := 64) (by omega) (by omega), zz.push hB (by rw [pill_same])⟩
    · rintro H3 zz
      tm_at "go"
      refine ⟨_, B, hc, fun t => g t i, rfl, zz.2, k3, by omega, fun t b c2 H4 s4 et eb ec => ?_⟩
      refine gTp (SqT.of et) rfl ?_
      tm_at "go"
      refine ⟨b, c2, _, _, rfl, rfl, eb, ec, by rw [ir_len, ir_len]; exact line_le (by unfold hf; omega), fun D hD => ?_⟩
      generalize hg5 : upd _ _ _ = H5
      obtain ⟨s5, eD⟩ := newF hg5 hD
      have R5 := ((R1.same zz.1).same s4).same s5
      have k5 := ((k.trans (Kept.of zz.1)).trans (Kept.of s4)).trans (Kept.of s5)
      rw [show irow (hf hc) (pS r hc fun t => g t i) ++ irow (hc / 2) (pD r hc fun t => g t i) = irow hc (hv r hc fun t => g t i) from ir_app (by unfold hf; omega) (fun j hj => by unfold hv; rw [if_pos hj]) fun j hj => by unfold hv; rw [if_neg (by omega), Nat.add_sub_cancel_left]] at eD
      have nD : ∀ y, y < h → D ≠ ra y := fun y hy => (fresh_ne (((R1.same zz.1).same s4).rows.row y hy) hD).symm
      refine gE1 (SqL.of eD) ?_
      refine forIt (wEnum2 (n := hc) (f := fun y => .int (hv r hc (fun t => g t i) y))) (fun j σ H' => Kept (rs ra h) H H' ∧ RowsX H' a ra h n (colSet (pillOp (hv r) (hc, i) g) i j (hv r hc fun t => g t i)) ∧ H' D = some (.lst (irow hc (hv r hc fun t => g t i))) ∧ (∃ v2 v3 v4 v5, σ = [some (.ref p), some (.ref a), some (.ref c), some (.int (i : Nat)), v2, v3, v4, v5]))
        ⟨k5, R5.congr fun y x _ _ => col_zero y x, eD, _, _, _, _, rfl⟩ (fun i σ H' _ z => SqL.of z.2.2.1) ?_ ?_
      · rintro j x σ H6 H7 hj ⟨k6, R6, e6, v2, v3, v4, v5, rfl⟩ ⟨T, rfl, hT, s7, eT⟩
        refine gTp (SqT.of eT) rfl ?_
        have R7 := R6.same s7
        tm_at "go"
        refine gIxL (SqL.of R7.rows.top) (at_tab (by omega)) ?_
        tm_at "go"
        refine ⟨ra j, _, _, i, rfl, rfl, R7.rows.row j (by omega), ix_tab hin, ?_⟩
        exact ⟨(k6.trans (Kept.of s7)).mut ⟨j, by omega, rfl⟩, col_step R7 (by omega) hin rfl, by rw [upd_ne (nD j (by omega))]; exact s7 _ _ e6, _, _, _, _, rfl⟩
      · rintro σ H6 ⟨k6, R6, e6, v2, v3, v4, v5, rfl⟩
        exact ⟨k6, R6.congr fun y x _ _ => col_done y x, _, _, _, _, _, rfl⟩
  · rintro σ H1 ⟨k, R1, v1, v2, v3, v4, v5, rfl⟩
    exact q _ k R1
theorem ok_pillars_back (S : TX K mg) : OkF P w K mg base 7 (He.ga K "pillars_back") (p_mut (RuleAt K) (fun r => pillOp (bkr r)) (fun c => 2 ≤ c.1)) := by
  refine okF (F_pillars_back S) sc_pillars_back (by tm_at "len") (fun _ _ _ _ _ _ us hl => match us, hl with | [_, _, _], _ => rfl) (fun cdv A outer s H vs Q E hr h => ?_)
  obtain ⟨p, a, c, r, ra, h, n, g, ⟨hc, wc⟩, rfl, ht, R, z, hC, ⟨k1, k2, k3⟩, q⟩ := h
  refine ⟨_, (pss_cons (ps_set (i := 3) sc_pillars_back.nd rfl (Or.inl rfl) (pe_op op_fdiv (pe_op op_add (pe_ix (kIxT (K := K) rfl) (pv 2) pe_int (fun _ _ => rfl)) pe_int) pe_int))
    (pss_one (ps_for PassesOwn.never rfl (pi_range1 rfl (fr_range S) (pa_cons (pe_ix (kIxT (K := K) rfl) (pv 2) pe_int (fun _ _ => rfl)) pa_nil)) (pg_name (i := 4) sc_pillars_back.nd rfl (Or.inr rfl)) (pss_cons (ps_setLc (i := 5) (own := [("y", 7)]) (g := gName 7) (tt := tYes)  rfl sc_pillars_back.nd rfl rfl (sw_true rfl rfl rfl (by decide +kernel)) (pi_range1 rfl (fr_range S) (pa_cons (pv 3) pa_nil)) (blkOk_by (own := [("y", 7)]) (N := ["rule", "rows", "corner", "many", "x", "sums", "differences", "y", "number"]) (sc := defScope s_pillars_back) (by decide +kernel)) (fun _ _ _ _ _ => (pg_name (i := 7) sc_pillars_back.nd rfl (Or.inl rfl))) (fun _ _ _ _ _ => pts_nil) (fun _ _ _ _ _ => (pe_ix (kIxL (K := K) rfl) (pe_ix (kIxL (K := K) rfl) (pv 1) (pv 7) (fun _ _ => rfl)) (pv 4) (fun _ _ => rfl))))
    (pss_cons (ps_setLc (i := 6) (own := [("y", 7)]) (g := gName 7) (tt := tYes)  rfl sc_pillars_back.nd rfl rfl (sw_true rfl rfl rfl (by decide +kernel)) (pi_range2 rfl (fr_range S) (pa_cons (pv 3) (pa_cons (pe_ix (kIxT (K := K) rfl) (pv 2) pe_int (fun _ _ => rfl)) pa_nil))) (blkOk_by (own := [("y", 7)]) (N := ["rule", "rows", "corner", "many", "x", "sums", "differences", "y", "number"]) (sc := defScope s_pillars_back) (by decide +kernel)) (fun _ _ _ _ _ => (pg_name (i := 7) sc_pillars_back.nd rfl (Or.inl rfl))) (fun _ _ _ _ _ => pts_nil) (fun _ _ _ _ _ => (pe_ix (kIxL (K := K) rfl) (pe_ix (kIxL (K := K) rfl) (pv 1) (pv 7) (fun _ _ => rfl)) (pv 4) (fun _ _ => rfl))))
    (pss_one (ps_for PassesOwn.never rfl (kEnum (K := K) rfl rfl (fr_enumerate S) (pa_cons (pe_d (k := 6) (m := "joined") (pv 0) (hr.mono (by decide)) (pa_cons (pv 5) (pa_cons (pv 6) pa_nil))) pa_nil)) (kPTup (K := K) (n := 2) rfl rfl (pgs_cons (pg_name (i := 7) sc_pillars_back.nd rfl (Or.inl rfl)) (pgs_cons (pg_name (i := 8) sc_pillars_back.nd rfl (Or.inl rfl)) pgs_nil))) (pss_one (ps_asg (pv 8) (pg_sub (pe_ix (kIxL (K := K) rfl) (pv 1) (pv 7) (fun _ _ => rfl)) (pv 4) set_list)))))))))), ?_⟩
  dsimp only at k1 k2 k3
  have zh := z.h2
  have zw := z.w2
  tm_at "go"
  refine gIxT (SqT.of hC) (i := 0) rfl ?_
  tm_at "go"
  refine gIxT (SqT.of hC) (i := 1) rfl ?_
  tm_at "go"
  rw [hf_int]
  refine gR1 (by dsimp only; omega) ?_
  dsimp only
  rw [Int.toNat_natCast]
  refine forIt (wRange (m := wc)) (fun i σ H' => Kept (rs ra h) H H' ∧ RowsX H' a ra h n (pillOp (bkr r) (hc, i) g) ∧ ∃ v1 v2 v3 v4 v5, σ = [some (.ref p), some (.ref a), some (.ref c), some (.int (hf hc : Nat)), v1, v2, v3, v4, v5])
    ⟨Kept.refl _ _, R.congr fun y x _ _ => by unfold pillOp; rw [if_neg (by omega)], none, none, none, none, none, rfl⟩ (fun _ _ _ _ _ => trivial) ?_ ?_
  · rintro i x σ H1 H2 hi ⟨k, R1, v1, v2, v3, v4, v5, rfl⟩ ⟨rfl, rfl⟩
    have hin : i < n := by omega
    tm_at "go"
    refine gR1 (by unfold hf; omega) ?_
    rw [Int.toNat_natCast]
    intro B hB
    refine lcIt (wRange (m := hf hc)) (fun j H' => AccI H2 B j (fun t => g t i) H') (AccI.nil hB) (fun _ _ _ _ => trivial) ?_ ?_
    · rintro j x H3 H4 hj zz ⟨rfl, rfl⟩
      have hj2 : j < h := by unfold hf at hj; omega
      tm_at "go"
      refine ⟨rfl, ?_⟩
      tm_at "go"
      have R4 := R1.same zz.1
      refine gIxL (SqL.of R4.rows.top) (at_tab hj2) ?_
      tm_at "go"
      refine gIxL (SqL.of (R4.rows.row j hj2)) (at_tab hin) ?_
      exact ⟨_, zz.2, ir_lt (n := 64) (by omega) (by omega), zz.push hB (by rw [pill_same])⟩
    rintro H3 zz
    have R3 := R1.same zz.1
    have k3' := k.trans (Kept.of zz.1)
    tm_at "go"
    refine gIxT (SqT.of (keptT R.rows hC k3')) (i := 0) rfl ?_
    tm_at "go"
    refine gR2 (by unfold hf; omega) (by dsimp only; omega) ?_
    intro E2 hE2
    rw [show (((hc, wc).1 : Nat) : Int) - ((hf hc : Nat) : Int) = ((hc / 2 : Nat) : Int) by unfold hf; dsimp only; omega, Int.toNat_natCast]
    refine lcIt (wRange2 (m := hc / 2)) (fun j H' => AccI H3 E2 j (fun t => g (hf hc + t) i) H') (AccI.nil hE2) (fun _ _ _ _ => trivial) ?_ ?_
    · rintro j x H4 H5 hj zz2 ⟨rfl, rfl⟩
      have hj2 : hf hc + j < h := by unfold hf; omega
      tm_at "go"
      refine ⟨rfl, ?_⟩
      tm_at "go"
      have R4 := R3.same zz2.1
      refine gIxL (SqL.of R4.rows.top) (at_tabI (i := hf hc + j) (by omega) hj2) ?_
      tm_at "go"
      refine gIxL (SqL.of (R4.rows.row _ hj2)) (at_tab hin) ?_
      exact ⟨_, zz2.2, ir_lt (n := 64) (by omega) (by omega), zz2.push hE2 (by rw [pill_same])⟩
    rintro H4 zz2
    have R4 := R3.same zz2.1
    have k4 := k3'.trans (Kept.of zz2.1)
    tm_at "go"
    obtain ⟨C, dx, f, e, cl, m, o⟩ := dyn_joined S (P := P) (w := w) (base := base) (keptR R.rows ht k4)
    refine ⟨p, C, dx, [], f, _, rfl, e, rfl, cl, m, o, ?_⟩
    tm_at "go"
    refine ⟨_, B, E2, hc, fun t => g t i, fun t => g (hf hc + t) i, rfl, zz2.1 _ _ zz.2, zz2.2, k3, by omega, fun D H5 s5 hD eD => ?_⟩
    have R5 := R4.same s5
    have k5 := k4.trans (Kept.of s5)
    have nD : ∀ y, y < h → D ≠ ra y := fun y hy => (fresh_ne (R4.rows.row y hy) hD).symm
    refine gE1 (SqL.of eD) ?_
    refine forIt (wEnum2 (n := hc) (f := fun y => .int (bkr r hc (fun t => g t i) y))) (fun j σ H' => Kept (rs ra h) H H' ∧ RowsX H' a ra h n (colSet (pillOp (bkr r) (hc, i) g) i j (bkr r hc fun t => g t i)) ∧ H' D = some (.lst (irow hc (bkr r hc fun t => g t i))) ∧ (∃ v2 v3 v4 v5, σ = [some (.ref p), some (.ref a), some (.ref c), some (.int (hf hc : Nat)), some (.int (i : Nat)), v2, v3, v4, v5]))
      ⟨k5, R5.congr fun y x _ _ => col_zero y x, eD, _, _, _, _, rfl⟩ (fun i σ H' _ z => SqL.of z.2.2.1) ?_ ?_
    · rintro j x σ H6 H7 hj ⟨k6, R6, e6, v2, v3, v4, v5, rfl⟩ ⟨T, rfl, hT, s7, eT⟩
      refine gTp (SqT.of eT) rfl ?_
      have R7 := R6.same s7
      tm_at "go"
      refine gIxL (SqL.of R7.rows.top) (at_tab (by omega)) ?_
      tm_at "go"
      refine ⟨ra j, _, _, i, rfl, rfl, R7.rows.row j (by omega), ix_tab hin, ?_⟩
      exact ⟨(k6.trans (Kept.of s7)).mut ⟨j, by omega, rfl⟩, col_step R7 (by omega) hin rfl, by rw [upd_ne (nD j (by omega))]; exact s7 _ _ e6, _, _, _, _, rfl⟩
    · rintro σ H6 ⟨k6, R6, e6, v2, v3, v4, v5, rfl⟩
      exact ⟨k6, R6.congr fun y x _ _ => col_done y x, _, _, _, _, _, rfl⟩
  · rintro σ H1 ⟨k, R1, v1, v2, v3, v4, v5, rfl⟩
    exact q _ k R1
theorem ok_along_pillars (S : TX K mg) : OkF P w K mg base 7 (He.ga K "along_pillars") (p_mut (CarAt K) (fun r => pillOp (cbr r)) (fun c => 2 ≤ c.1)) := by
  refine okF (F_along_pillars S) sc_along_pillars (by tm_at "len") (fun _ _ _ _ _ _ us hl => match us, hl with | [_, _, _], _ => rfl) (fun cdv A outer s H vs Q E hr h => ?_)
  obtain ⟨p, a, c, r, ra, h, n, g, ⟨hc, wc⟩, rfl, ht, R, z, hC, ⟨k1, k2, k3⟩, q⟩ := h
  refine ⟨_, (pss_cons (ps_set (i := 3) sc_along_pillars.nd rfl (Or.inl rfl) (pe_op op_fdiv (pe_op op_add (pe_ix (kIxT (K := K) rfl) (pv 2) pe_int (fun _ _ => rfl)) pe_int) pe_int))
    (pss_one (ps_for PassesOwn.never rfl (pi_range1 rfl (fr_range S) (pa_cons (pe_ix (kIxT (K := K) rfl) (pv 2) pe_int (fun _ _ => rfl)) pa_nil)) (pg_name (i := 4) sc_along_pillars.nd rfl (Or.inr rfl)) (pss_cons (ps_setLc (i := 5) (own := [("y", 6)]) (g := gName 6) (tt := tYes)  rfl sc_along_pillars.nd rfl rfl (sw_true rfl rfl rfl (by decide +kernel)) (pi_range1 rfl (fr_range S) (pa_cons (pe_ix (kIxT (K := K) rfl) (pv 2) pe_int (fun _ _ => rfl)) pa_nil)) (blkOk_by (own := [("y", 6)]) (N := ["carrier", "rows", "corner", "many", "x", "pillar", "y", "error"]) (sc := defScope s_along_pillars) (by decide +kernel)) (fun _ _ _ _ _ => (pg_name (i := 6) sc_along_pillars.nd rfl (Or.inl rfl))) (fun _ _ _ _ _ => pts_nil) (fun _ _ _ _ _ => (pe_ix (kIxL (K := K) rfl) (pe_ix (kIxL (K := K) rfl) (pv 1) (pv 6) (fun _ _ => rfl)) (pv 4) (fun _ _ => rfl))))
    (pss_one (ps_for PassesOwn.never rfl (kEnum (K := K) rfl rfl (fr_enumerate S) (pa_cons (pe_d (k := 6) (m := "carried_on") (pv 0) (hr.mono (by decide)) (pa_cons (pe_slice (kSlL (K := K) rfl) (pv 5) po_none (po_some (pv 3))) (pa_cons (pe_slice (kSlL (K := K) rfl) (pv 5) (po_some (pv 3)) po_none) pa_nil))) pa_nil)) (kPTup (K := K) (n := 2) rfl rfl (pgs_cons (pg_name (i := 6) sc_along_pillars.nd rfl (Or.inl rfl)) (pgs_cons (pg_name (i := 7) sc_along_pillars.nd rfl (Or.inl rfl)) pgs_nil))) (pss_one (ps_asg (pv 7) (pg_sub (pe_ix (kIxL (K := K) rfl) (pv 1) (pv 6) (fun _ _ => rfl)) (pv 4) set_list))))))))), ?_⟩
  dsimp only at k1 k2 k3
  have zh := z.h2
  have zw := z.w2
  tm_at "go"
  refine gIxT (SqT.of hC) (i := 0) rfl ?_
  tm_at "go"
  refine gIxT (SqT.of hC) (i := 1) rfl ?_
  tm_at "go"
  rw [hf_int]
  refine gR1 (by dsimp only; omega) ?_
  dsimp only
  rw [Int.toNat_natCast]
  refine forIt (wRange (m := wc)) (fun i σ H' => Kept (rs ra h) H H' ∧ RowsX H' a ra h n (pillOp (cbr r) (hc, i) g) ∧ ∃ v1 v2 v3 v4, σ = [some (.ref p), some (.ref a), some (.ref c), some (.int (hf hc : Nat)), v1, v2, v3, v4])
    ⟨Kept.refl _ _, R.congr fun y x _ _ => by unfold pillOp; rw [if_neg (by omega)], none, none, none, none, rfl⟩ (fun _ _ _ _ _ => trivial) ?_ ?_
  · rintro i x σ H1 H2 hi ⟨k, R1, v1, v2, v3, v4, rfl⟩ ⟨rfl, rfl⟩
    have hin : i < n := by omega
    tm_at "go"
    refine gIxT (SqT.of (keptT R.rows hC k)) (i := 0) rfl ?_
    tm_at "go"
    refine gR1 (by dsimp only; omega) ?_
    dsimp only
    rw [Int.toNat_natCast]
    intro B hB
    refine lcIt (wRange (m := hc)) (fun j H' => AccI H2 B j (fun t => g t i) H') (AccI.nil hB) (fun _ _ _ _ => trivial) ?_ ?_
    · rintro j x H3 H4 hj zz ⟨rfl, rfl⟩
      tm_at "go"
      refine ⟨rfl, ?_⟩
      tm_at "go"
      have R4 := R1.same zz.1
      refine gIxL (SqL.of R4.rows.top) (at_tab (by omega)) ?_
      tm_at "go"
      refine gIxL (SqL.of (R4.rows.row j (by omega))) (at_tab hin) ?_
      exact ⟨_, zz.2, ir_lt (n := 64) (by omega) (by omega), zz.push hB (by rw [pill_same])⟩
    rintro H3 zz
    have R3 := R1.same zz.1
    have k3' := k.trans (Kept.of zz.1)
    tm_at "go"
    obtain ⟨C, dx, f, e, cl, m, o⟩ := dyn_carried S (P := P) (w := w) (base := base) (keptC R.rows ht k3')
    refine ⟨p, C, dx, [], f, _, rfl, e, rfl, cl, m, o, ?_⟩
    have ez : H3 B = some (.lst (tab hc fun t => .int (g t i))) := zz.2
    tm_at "go"
    refine gSlL (SqL.of ez) fun S1 hS1 => ?_
    generalize hg : upd _ _ _ = H4
    obtain ⟨s4, eS⟩ := newF hg hS1
    rw [cut_to (by unfold hf; omega)] at eS
    tm_at "go"
    refine gSlL (SqL.of (s4 _ _ ez)) fun S2 hS2 => ?_
    generalize hg2 : upd _ _ _ = H5
    obtain ⟨s5, eS2⟩ := newF hg2 hS2
    rw [cut_from (by unfold hf; omega), show hc - hf hc = hc / 2 by unfold hf; omega] at eS2
    tm_at "go"
    refine ⟨_, S1, S2, hc, fun t => g t i, fun t => g (hf hc + t) i, rfl, s5 _ _ eS, eS2, k3, by omega, fun D H6 s6 hD eD => ?_⟩
    have R6 := ((R3.same s4).same s5).same s6
    have k6 := ((k3'.trans (Kept.of s4)).trans (Kept.of s5)).trans (Kept.of s6)
    have nD : ∀ y, y < h → D ≠ ra y := fun y hy => (fresh_ne (((R3.same s4).same s5).rows.row y hy) hD).symm
    refine gE1 (SqL.of eD) ?_
    refine forIt (wEnum2 (n := hc) (f := fun y => .int (cbr r hc (fun t => g t i) y))) (fun j σ H' => Kept (rs ra h) H H' ∧ RowsX H' a ra h n (colSet (pillOp (cbr r) (hc, i) g) i j (cbr r hc fun t => g t i)) ∧ H' D = some (.lst (irow hc (cbr r hc fun t => g t i))) ∧ (∃ v2 v3 v4, σ = [some (.ref p), some (.ref a), some (.ref c), some (.int (hf hc : Nat)), some (.int (i : Nat)), v2, v3, v4]))
      ⟨k6, R6.congr fun y x _ _ => col_zero y x, eD, _, _, _, rfl⟩ (fun i σ H' _ z => SqL.of z.2.2.1) ?_ ?_
    · rintro j x σ H6 H7 hj ⟨k6, R6, e6, v2, v3, v4, rfl⟩ ⟨T, rfl, hT, s7, eT⟩
      refine gTp (SqT.of eT) rfl ?_
      have R7 := R6.same s7
      tm_at "go"
      refine gIxL (SqL.of R7.rows.top) (at_tab (by omega)) ?_
      tm_at "go"
      refine ⟨ra j, _, _, i, rfl, rfl, R7.rows.row j (by omega), ix_tab hin, ?_⟩
      exact ⟨(k6.trans (Kept.of s7)).mut ⟨j, by omega, rfl⟩, col_step R7 (by omega) hin rfl, by rw [upd_ne (nD j (by omega))]; exact s7 _ _ e6, _, _, _, rfl⟩
    · rintro σ H6 ⟨k6, R6, e6, v2, v3, v4, rfl⟩
      exact ⟨k6, R6.congr fun y x _ _ => col_done y x, _, _, _, _, rfl⟩
  · rintro σ H1 ⟨k, R1, v1, v2, v3, v4, rfl⟩
    exact q _ k R1
end
end Kp
/-! halved, put back, worst -/
namespace Kp
open PySem PySem.Spec L2
section
variable {K : PySem.W.Frag} {H H' : Hp} {a p b : Addr} {ra ta : Nat → Addr} {h w h2 w2 m : Nat} {g : G2} {r : Rl} {ws : List L}
theorem rs_refs (R : Rows H a ra h w g) (e : H b = some (.lst (tab (m + 1) fun i => .ref (ta i)))) : ¬ rs ra h b := fun ⟨y, hy, q⟩ => by
  rw [q, R.row y hy] at e
  injection e with e
  injection e with e
  have e1 := congrArg (fun l : List V => l[0]?) e
  have e2 := congrArg List.length e
  rw [ir_len, tab_len] at e2
  rw [show (irow w (g y))[0]? = some (V.int (g y 0)) from tab_get (by omega), tab_get (by omega)] at e1
  injection e1 with e1
  cases e1
theorem keptP (R : Rows H a ra h w g) (f : PlanAt K H p h2 w2 r ws) (k : Kept (rs ra h) H H') : PlanAt K H' p h2 w2 r ws := by
  obtain ⟨⟨dx, ru, ca, tc, e, q, c⟩, z, ok⟩ := f
  exact ⟨⟨dx, ru, ca, tc, k _ _ e (rs_out R e fun _ z => by cases z), keptR R q k, ⟨k _ _ c.top (rs_refs R c.top), fun i hi => k _ _ (c.it i hi) (rs_out R (c.it i hi) fun _ z => by cases z)⟩⟩, z, ok⟩
theorem mkField {x dx : Addr} {Q : VK} (R : Rows H a ra h w g) (z : Sz h w) (hb : Bd 999999999999999 h w g) (q : ∀ x H2, Same H H2 → H x = none → FieldAt K H2 x h w g → Q (.ref x) H2) (h1 : H x = none) (h2 : H dx = none) (n : dx ≠ x) :
    p_Field_init K [.ref x, .ref a] (upd (upd H dx (.own x)) x (.ins (He.ga K "Field") dx [])) fun v H2 => v = .non ∧ Q (.ref x) H2 := by
  have s2 : Same H (upd (upd H dx (.own x)) x (.ins (He.ga K "Field") dx [])) := (Same.new h2).trans (Same.new (by rw [upd_ne n.symm]; exact h1))
  exact ⟨x, dx, a, ra, h, w, g, rfl, upd_same, R.same s2, z, hb, fun H' s F => ⟨rfl, q x H' (fun b o e => s b o (ne_of_none e h1) (s2 _ _ e)) h1 F⟩⟩
end
def p_step (K : PySem.W.Frag) (F : Rl → L → Nat × Nat → G2 → G2) : Pm := fun vs H Q => ∃ (p a : Addr) (k h w : Nat) (r : Rl) (ws : List L) (l : L) (ra : Nat → Addr) (g : G2), vs = [.ref p, .ref a, .int (k : Nat)] ∧ PlanAt K H p h w r ws ∧ RowsX H a ra h w g ∧ ws[k]? = some l ∧
  ∀ H', Kept (rs ra h) H H' → RowsX H' a ra h w (F r l (cnr (h, w) ws k) g) → Q .non H'
def p_need (K : PySem.W.Frag) (b : Int) : Pm := fun vs H Q => ∃ (p f : Addr) (h w : Nat) (r : Rl) (ws : List L) (g : G2), vs = [.ref p, .ref f] ∧ PlanAt K H p h w r ws ∧ FieldAt K H f h w g ∧ Bd b h w g ∧ ∀ H', Same H H' → Q .non H'
def p_whole (K : PySem.W.Frag) (b : Int) (F : Rl → Nat × Nat → List L → G2 → G2) : Pm := fun vs H Q => ∃ (p f : Addr) (h w : Nat) (r : Rl) (ws : List L) (g : G2), vs = [.ref p, .ref f] ∧ PlanAt K H p h w r ws ∧ FieldAt K H f h w g ∧ Bd b h w g ∧ Bd 999999999999999 h w (F r (h, w) ws g) ∧
  ∀ a H', Same H H' → FieldAt K H' a h w (F r (h, w) ws g) → Q (.ref a) H'
def p_need_errors (K : PySem.W.Frag) : Pm := fun vs H Q => ∃ (p f : Addr) (h w : Nat) (r : Rl) (ws : List L) (g : G2), vs = [.ref p, .ref f] ∧ PlanAt K H p h w r ws ∧ FieldAt K H f h w g ∧ (∀ y x, y < h → x < w → 0 ≤ g y x ∧ g y x ≤ 1073741824) ∧ ∀ H', Same H H' → Q .non H'
def p_worst (K : PySem.W.Frag) : Pm := fun vs H Q => ∃ (p f : Addr) (h w : Nat) (r : Rl) (ws : List L) (g : G2), vs = [.ref p, .ref f] ∧ PlanAt K H p h w r ws ∧ FieldAt K H f h w g ∧ (∀ y x, y < h → x < w → 0 ≤ g y x ∧ g y x ≤ 1073741824) ∧ Bd 999999999999999 h w (worstM r (h, w) ws g) ∧
  ∀ a H', Same H H' → FieldAt K H' a h w (worstM r (h, w) ws g) → Q (.ref a) H'
def p_coarse (K : PySem.W.Frag) : Pm := fun vs H Q => ∃ (p f : Addr) (h w : Nat) (r : Rl) (ws : List L) (g : G2), vs = [.ref p, .ref f, .int 0] ∧ PlanAt K H p h w r ws ∧ FieldAt K H f h w g ∧ Bd 1000000000 h w g ∧ Bd 999999999999999 h w (backM r (h, w) ws g) ∧
  ∀ a H', Same H H' → FieldAt K H' a h w (backM r (h, w) ws g) → Q (.ref a) H'
section
variable {P : Program} {w : World} {K : PySem.W.Frag} {mg : Str → Option Value} {base : Heap}
theorem ok_step_halved (S : TX K mg) : OkF P w K mg base 8 (He.ga K "step_halved") (p_step K fun r l => stepF (hv r) l) := by
  refine okF (F_step_halved S) sc_step_halved (by tm_at "len") (fun _ _ _ _ _ _ us hl => match us, hl with | [_, _, _], _ => rfl) (fun cdv A outer s H vs Q E hr h => ?_)
  obtain ⟨p, a, k, h, n, r, ws, l, ra, g, rfl, F, R, hl, q⟩ := h
  refine ⟨_, (pss_cons (ps_set (i := 3) sc_step_halved.nd rfl (Or.inl rfl) (pe_ix ix_str (pe_mt0 (pv 0) (cls_Plan S) (me_Plan_way S) (ok_Plan_way S) (hr.mono (by decide))) (pv 2) (fun _ _ => rfl)))
    (pss_cons (ps_if (pt_cmpR op_in_sign (pv 3) pe_str rfl) (pss_one (ps_expr (pe_f (ok_rows_halved S) (hr.mono (by decide)) rfl (glo_rows_halved S) (pa_cons (pe_mt0 (pv 0) (cls_Plan S) (me_Plan_rule S) (ok_Plan_rule S) (hr.mono (by decide))) (pa_cons (pv 1) (pa_cons (pe_mt (pv 0) (cls_Plan S) (me_Plan_corner S) (ok_Plan_corner S) (hr.mono (by decide)) (pa_cons (pv 2) pa_nil)) pa_nil)))))) pss_nil)
    (pss_one (ps_if (pt_cmpR op_in_sign (pv 3) pe_str rfl) (pss_one (ps_expr (pe_f (ok_pillars_halved S) (hr.mono (by decide)) rfl (glo_pillars_halved S) (pa_cons (pe_mt0 (pv 0) (cls_Plan S) (me_Plan_rule S) (ok_Plan_rule S) (hr.mono (by decide))) (pa_cons (pv 1) (pa_cons (pe_mt (pv 0) (cls_Plan S) (me_Plan_corner S) (ok_Plan_corner S) (hr.mono (by decide)) (pa_cons (pv 2) pa_nil)) pa_nil)))))) pss_nil)))), ?_⟩
  have wl := F.wlen
  have hk : k < ws.length := (List.getElem?_eq_some_iff.mp hl).1
  have z := F.sz
  obtain ⟨le1, le2⟩ := cnr_le ws k (h, n)
  obtain ⟨w1, w2⟩ := F.ok.at hl
  have F0 := F
  obtain ⟨⟨dx, ru, ca, tc, hp, hr1, c⟩, _, _⟩ := F0
  dsimp only at le1 le2
  tm_at "go"
  refine gMeE hp rfl ?_
  tm_at "go"
  refine ⟨p, h, n, r, ws, rfl, F, ?_⟩
  tm_at "go"
  refine gIxW hl wl ?_
  tm_at "go"
  refine in_lt ?_
  rw [inRB]
  cases l with
  | r =>
    tm_at "go"
    refine gMeE hp rfl ?_
    tm_at "go"
    refine ⟨p, h, n, r, ws, rfl, F, fun ru2 hr2 => ?_⟩
    tm_at "go"
    refine gMeE hp rfl ?_
    tm_at "go"
    refine ⟨p, h, n, r, ws, k, rfl, F, by omega, fun tc2 hc2 => ?_⟩
    tm_at "go"
    refine ⟨ru2, a, tc2, r, ra, h, n, g, _, rfl, hr2, R, z, hc2, ⟨le1, le2, w1 rfl⟩, fun H1 k1 R1 => ?_⟩
    tm_at "go"
    refine in_lt ?_
    rw [inPB]
    tm_at "go"
    exact q _ k1 R1
  | p =>
    tm_at "go"
    refine in_lt ?_
    rw [inPB]
    tm_at "go"
    refine gMeE hp rfl ?_
    tm_at "go"
    refine ⟨p, h, n, r, ws, rfl, F, fun ru2 hr2 => ?_⟩
    tm_at "go"
    refine gMeE hp rfl ?_
    tm_at "go"
    refine ⟨p, h, n, r, ws, k, rfl, F, by omega, fun tc2 hc2 => ?_⟩
    tm_at "go"
    exact ⟨ru2, a, tc2, r, ra, h, n, g, _, rfl, hr2, R, z, hc2, ⟨le1, le2, w2 rfl⟩, fun H1 k1 R1 => q _ k1 R1⟩
  | b =>
    tm_at "go"
    refine gMeE hp rfl ?_
    tm_at "go"
    refine ⟨p, h, n, r, ws, rfl, F, fun ru2 hr2 => ?_⟩
    tm_at "go"
    refine gMeE hp rfl ?_
    tm_at "go"
    refine ⟨p, h, n, r, ws, k, rfl, F, by omega, fun tc2 hc2 => ?_⟩
    tm_at "go"
    refine ⟨ru2, a, tc2, r, ra, h, n, g, _, rfl, hr2, R, z, hc2, ⟨le1, le2, w1 rfl⟩, fun H1 k1 R1 => ?_⟩
    have F1 := keptP R.rows F k1
    have F2 := F1
    obtain ⟨⟨dx2, ru3, ca2, tc3, hp2, hr3, c3⟩, _, _⟩ := F2
    tm_at "go"
    refine in_lt ?_
    rw [inPB]
    tm_at "go"
    refine gMeE hp2 rfl ?_
    tm_at "go"
    refine ⟨p, h, n, r, ws, rfl, F1, fun ru2 hr2 => ?_⟩
    tm_at "go"
    refine gMeE hp2 rfl ?_
    tm_at "go"
    refine ⟨p, h, n, r, ws, k, rfl, F1, by omega, fun tc2 hc2 => ?_⟩
    tm_at "go"
    exact ⟨ru2, a, tc2, r, ra, h, n, _, _, rfl, hr2, R1, z, hc2, ⟨le1, le2, w2 rfl⟩, fun H2 k2 R2 => q _ (k1.trans k2) R2⟩
theorem ok_step_back (S : TX K mg) : OkF P w K mg base 8 (He.ga K "step_back") (p_step K fun r l => stepR (bkr r) l) := by
  refine okF (F_step_back S) sc_step_back (by tm_at "len") (fun _ _ _ _ _ _ us hl => match us, hl with | [_, _, _], _ => rfl) (fun cdv A outer s H vs Q E hr h => ?_)
  obtain ⟨p, a, k, h, n, r, ws, l, ra, g, rfl, F, R, hl, q⟩ := h
  refine ⟨_, (pss_cons (ps_set (i := 3) sc_step_back.nd rfl (Or.inl rfl) (pe_ix ix_str (pe_mt0 (pv 0) (cls_Plan S) (me_Plan_way S) (ok_Plan_way S) (hr.mono (by decide))) (pv 2) (fun _ _ => rfl)))
    (pss_cons (ps_if (pt_cmpR op_in_sign (pv 3) pe_str rfl) (pss_one (ps_expr (pe_f (ok_pillars_back S) (hr.mono (by decide)) rfl (glo_pillars_back S) (pa_cons (pe_mt0 (pv 0) (cls_Plan S) (me_Plan_rule S) (ok_Plan_rule S) (hr.mono (by decide))) (pa_cons (pv 1) (pa_cons (pe_mt (pv 0) (cls_Plan S) (me_Plan_corner S) (ok_Plan_corner S) (hr.mono (by decide)) (pa_cons (pv 2) pa_nil)) pa_nil)))))) pss_nil)
    (pss_one (ps_if (pt_cmpR op_in_sign (pv 3) pe_str rfl) (pss_one (ps_expr (pe_f (ok_rows_back S) (hr.mono (by decide)) rfl (glo_rows_back S) (pa_cons (pe_mt0 (pv 0) (cls_Plan S) (me_Plan_rule S) (ok_Plan_rule S) (hr.mono (by decide))) (pa_cons (pv 1) (pa_cons (pe_mt (pv 0) (cls_Plan S) (me_Plan_corner S) (ok_Plan_corner S) (hr.mono (by decide)) (pa_cons (pv 2) pa_nil)) pa_nil)))))) pss_nil)))), ?_⟩
  have wl := F.wlen
  have hk : k < ws.length := (List.getElem?_eq_some_iff.mp hl).1
  have z := F.sz
  obtain ⟨le1, le2⟩ := cnr_le ws k (h, n)
  obtain ⟨w1, w2⟩ := F.ok.at hl
  have F0 := F
  obtain ⟨⟨dx, ru, ca, tc, hp, hr1, c⟩, _, _⟩ := F0
  dsimp only at le1 le2
  tm_at "go"
  refine gMeE hp rfl ?_
  tm_at "go"
  refine ⟨p, h, n, r, ws, rfl, F, ?_⟩
  tm_at "go"
  refine gIxW hl wl ?_
  tm_at "go"
  refine in_lt ?_
  rw [inPB]
  cases l with
  | p =>
    tm_at "go"
    refine gMeE hp rfl ?_
    tm_at "go"
    refine ⟨p, h, n, r, ws, rfl, F, fun ru2 hr2 => ?_⟩
    tm_at "go"
    refine gMeE hp rfl ?_
    tm_at "go"
    refine ⟨p, h, n, r, ws, k, rfl, F, by omega, fun tc2 hc2 => ?_⟩
    tm_at "go"
    refine ⟨ru2, a, tc2, r, ra, h, n, g, _, rfl, hr2, R, z, hc2, ⟨le1, le2, w2 rfl⟩, fun H1 k1 R1 => ?_⟩
    tm_at "go"
    refine in_lt ?_
    rw [inRB]
    tm_at "go"
    exact q _ k1 R1
  | r =>
    tm_at "go"
    refine in_lt ?_
    rw [inRB]
    tm_at "go"
    refine gMeE hp rfl ?_
    tm_at "go"
    refine ⟨p, h, n, r, ws, rfl, F, fun ru2 hr2 => ?_⟩
    tm_at "go"
    refine gMeE hp rfl ?_
    tm_at "go"
    refine ⟨p, h, n, r, ws, k, rfl, F, by omega, fun tc2 hc2 => ?_⟩
    tm_at "go"
    exact ⟨ru2, a, tc2, r, ra, h, n, g, _, rfl, hr2, R, z, hc2, ⟨le1, le2, w1 rfl⟩, fun H1 k1 R1 => q _ k1 R1⟩
  | b =>
    tm_at "go"
    refine gMeE hp rfl ?_
    tm_at "go"
    refine ⟨p, h, n, r, ws, rfl, F, fun ru2 hr2 => ?_⟩
    tm_at "go"
    refine gMeE hp rfl ?_
    tm_at "go"
    refine ⟨p, h, n, r, ws, k, rfl, F, by omega, fun tc2 hc2 => ?_⟩
    tm_at "go"
    refine ⟨ru2, a, tc2, r, ra, h, n, g, _, rfl, hr2, R, z, hc2, ⟨le1, le2, w2 rfl⟩, fun H1 k1 R1 => ?_⟩
    have F1 := keptP R.rows F k1
    have F2 := F1
    obtain ⟨⟨dx2, ru3, ca2, tc3, hp2, hr3, c3⟩, _, _⟩ := F2
    tm_at "go"
    refine in_lt ?_
    rw [inRB]
    tm_at "go"
    refine gMeE hp2 rfl ?_
    tm_at "go"
    refine ⟨p, h, n, r, ws, rfl, F1, fun ru2 hr2 => ?_⟩
    tm_at "go"
    refine gMeE hp2 rfl ?_
    tm_at "go"
    refine ⟨p, h, n, r, ws, k, rfl, F1, by omega, fun tc2 hc2 => ?_⟩
    tm_at "go"
    exact ⟨ru2, a, tc2, r, ra, h, n, _, _, rfl, hr2, R1, z, hc2, ⟨le1, le2, w1 rfl⟩, fun H2 k2 R2 => q _ (k1.trans k2) R2⟩
theorem ok_need_picture (S : TX K mg) : OkF P w K mg base 5 (He.ga K "need_picture") (p_need K 100000) := by
  refine okF (F_need_picture S) sc_need_picture (by tm_at "len") (fun _ _ _ _ _ _ us hl => match us, hl with | [_, _], _ => rfl) (fun cdv A outer s H vs Q E hr h => ?_)
  obtain ⟨tPICTURE, gPICTURE⟩ := int_PICTURE S
  obtain ⟨p, f, h, n, r, ws, g, rfl, F, Fd, hb, q⟩ := h
  refine ⟨_, (pss_one (ps_expr (pe_f (ok_need_field S) (hr.mono (by decide)) rfl (glo_need_field S) (pa_cons (pv 1) (pa_cons (pe_mt (pv 0) (cls_Plan S) (me_Plan_corner S) (ok_Plan_corner S) (hr.mono (by decide)) (pa_cons pe_int pa_nil)) (pa_cons (pe_glob (v := .int 100000) rfl gPICTURE ⟨_, rfl⟩) pa_nil)))))), ?_⟩
  have F0 := F
  obtain ⟨⟨dx, ru, ca, tc, hp, hr1, c⟩, _, _⟩ := F0
  tm_at "go"
  refine gMeE hp rfl ?_
  tm_at "go"
  refine ⟨p, h, n, r, ws, 0, rfl, F, Nat.zero_le _, fun c0 hc0 => ?_⟩
  rw [cnr_zero] at hc0
  tm_at "go"
  exact ⟨f, c0, h, n, g, _, rfl, Fd, hc0, hb, q⟩
theorem ok_need_numbers (S : TX K mg) : OkF P w K mg base 5 (He.ga K "need_numbers") (p_need K 1000000000) := by
  refine okF (F_need_numbers S) sc_need_numbers (by tm_at "len") (fun _ _ _ _ _ _ us hl => match us, hl with | [_, _], _ => rfl) (fun cdv A outer s H vs Q E hr h => ?_)
  obtain ⟨tNUMBER, gNUMBER⟩ := int_NUMBER S
  obtain ⟨p, f, h, n, r, ws, g, rfl, F, Fd, hb, q⟩ := h
  refine ⟨_, (pss_one (ps_expr (pe_f (ok_need_field S) (hr.mono (by decide)) rfl (glo_need_field S) (pa_cons (pv 1) (pa_cons (pe_mt (pv 0) (cls_Plan S) (me_Plan_corner S) (ok_Plan_corner S) (hr.mono (by decide)) (pa_cons pe_int pa_nil)) (pa_cons (pe_glob (v := .int 1000000000) rfl gNUMBER ⟨_, rfl⟩) pa_nil)))))), ?_⟩
  have F0 := F
  obtain ⟨⟨dx, ru, ca, tc, hp, hr1, c⟩, _, _⟩ := F0
  tm_at "go"
  refine gMeE hp rfl ?_
  tm_at "go"
  refine ⟨p, h, n, r, ws, 0, rfl, F, Nat.zero_le _, fun c0 hc0 => ?_⟩
  rw [cnr_zero] at hc0
  tm_at "go"
  exact ⟨f, c0, h, n, g, _, rfl, Fd, hc0, hb, q⟩
theorem ok_halved (S : TX K mg) : OkF P w K mg base 9 (He.ga K "halved") (p_whole K 100000 halvedM) := by
  refine okF (F_halved S) sc_halved (by tm_at "len") (fun _ _ _ _ _ _ us hl => match us, hl with | [_, _], _ => rfl) (fun cdv A outer s H vs Q E hr h => ?_)
  obtain ⟨p, f, h, n, r, ws, g, rfl, F, Fd, hb, hb2, q⟩ := h
  refine ⟨_, (pss_cons (ps_expr (pe_f (ok_need_picture S) (hr.mono (by decide)) rfl (glo_need_picture S) (pa_cons (pv 0) (pa_cons (pv 1) pa_nil))))
    (pss_cons (ps_set (i := 2) sc_halved.nd rfl (Or.inl rfl) (pe_mt0 (pv 1) (cls_Field S) (me_Field_rows S) (ok_Field_rows S) (hr.mono (by decide))))
    (pss_cons (ps_for PassesOwn.never rfl (pi_range1 rfl (fr_range S) (pa_cons (pe_mt0 (pv 0) (cls_Plan S) (me_Plan_steps S) (ok_Plan_steps S) (hr.mono (by decide))) pa_nil)) (pg_name (i := 3) sc_halved.nd rfl (Or.inl rfl)) (pss_one (ps_expr (pe_f (ok_step_halved S) (hr.mono (by decide)) rfl (glo_step_halved S) (pa_cons (pv 0) (pa_cons (pv 2) (pa_cons (pv 3) pa_nil)))))))
    (pss_one (ps_ret (pe_mk (mkr_Field S) (ok_Field_init S) (hr.mono (by decide)) rfl (glo_Field S) (pa_cons (pv 2) pa_nil))))))), ?_⟩
  have wl := F.wlen
  tm_at "go"
  refine ⟨p, f, h, n, r, ws, g, rfl, F, Fd, hb, fun H1 s1 => ?_⟩
  have Fd1 := Fd.same s1
  have Fd0 := Fd1
  obtain ⟨⟨dx2, la, rl, hf2, _⟩, _, _⟩ := Fd0
  tm_at "go"
  refine gMeE hf2 rfl ?_
  tm_at "go"
  refine ⟨f, h, n, g, rfl, Fd1, fun a ra H2 N => ?_⟩
  have R2 := RowsX.of N
  have F2 := (F.same s1).same N.same
  have F0 := F2
  obtain ⟨⟨dx, ru, ca, tc, hp, hr1, c⟩, _, _⟩ := F0
  tm_at "go"
  refine gMeE hp rfl ?_
  tm_at "go"
  refine ⟨p, h, n, r, ws, rfl, F2, ?_⟩
  refine gR1 (by omega) ?_
  rw [Int.toNat_natCast]
  refine forIt (wRange (m := ws.length)) (fun i σ H' => Kept (rs ra h) H2 H' ∧ RowsX H' a ra h n (fwd r (h, n) ws g i) ∧ ∃ v, σ = [some (.ref p), some (.ref f), some (.ref a), v]) ⟨Kept.refl _ _, R2, none, rfl⟩ (fun _ _ _ _ _ => trivial) ?_ ?_
  · rintro i x σ H3 H4 hi ⟨k, R3, v, rfl⟩ ⟨rfl, rfl⟩
    tm_at "go"
    have hl : ws[i]? = some ws[i] := List.getElem?_eq_getElem hi
    refine ⟨p, a, i, h, n, r, ws, ws[i], ra, _, rfl, keptP R2.rows F2 k, R3, hl, fun H5 k5 R5 => ?_⟩
    refine ⟨k.trans k5, ?_, _, rfl⟩
    rw [show fwd r (h, n) ws g (i + 1) = stepF (hv r) ws[i] (cnr (h, n) ws i) (fwd r (h, n) ws g i) by show (match ws[i]? with | some l => _ | none => _) = _; rw [hl]]
    exact R5
  · rintro σ H3 ⟨k, R3, v, rfl⟩
    have s3 : Same H H3 := Kept.same (s1.trans N.same) k fun b ⟨y, hy, e⟩ => by rw [e]; exact s1.free (N.fr y hy)
    tm_at "go"
    exact fun x dx => mkField R3.rows F.sz hb2 fun x H4 s4 _ F4 => q x H4 (s3.trans s4) F4
theorem ok_coarse (S : TX K mg) : OkF P w K mg base 9 (He.ga K "coarse") (p_coarse K) := by
  refine okF (F_coarse S) sc_coarse (by tm_at "len") (fun _ _ _ _ _ _ us hl => match us, hl with | [_, _, _], _ => rfl) (fun cdv A outer s H vs Q E hr h => ?_)
  obtain ⟨p, f, h, n, r, ws, g, rfl, F, Fd, hb, hb2, q⟩ := h
  refine ⟨_, (pss_cons (ps_expr (pe_f (ok_need_numbers S) (hr.mono (by decide)) rfl (glo_need_numbers S) (pa_cons (pv 0) (pa_cons (pv 1) pa_nil))))
    (pss_cons (ps_if (pt_not (pt_val (pe_f (ok_is_whole S) (hr.mono (by decide)) rfl (glo_is_whole S) (pa_cons (pv 2) (pa_cons pe_int (pa_cons (pe_mt0 (pv 0) (cls_Plan S) (me_Plan_steps S) (ok_Plan_steps S) (hr.mono (by decide))) pa_nil)))))) (pss_one ps_never) pss_nil)
    (pss_cons (ps_set (i := 3) sc_coarse.nd rfl (Or.inl rfl) (pe_mt0 (pv 1) (cls_Field S) (me_Field_rows S) (ok_Field_rows S) (hr.mono (by decide))))
    (pss_cons (ps_for PassesOwn.never rfl (pi_revR rfl (fr_reversed S) (prg_2 rfl (fr_range S) (pv 2) (pe_mt0 (pv 0) (cls_Plan S) (me_Plan_steps S) (ok_Plan_steps S) (hr.mono (by decide))))) (pg_name (i := 4) sc_coarse.nd rfl (Or.inl rfl)) (pss_one (ps_expr (pe_f (ok_step_back S) (hr.mono (by decide)) rfl (glo_step_back S) (pa_cons (pv 0) (pa_cons (pv 3) (pa_cons (pv 4) pa_nil)))))))
    (pss_cons (ps_asg (pe_mt (pv 0) (cls_Plan S) (me_Plan_corner S) (ok_Plan_corner S) (hr.mono (by decide)) (pa_cons (pv 2) pa_nil)) (kPTup (K := K) (n := 2) rfl rfl (pgs_cons (pg_name (i := 5) sc_coarse.nd rfl (Or.inl rfl)) (pgs_cons (pg_name (i := 6) sc_coarse.nd rfl (Or.inr rfl)) pgs_nil))))
    (pss_one (ps_ret (pe_mk (mkr_Field S) (ok_Field_init S) (hr.mono (by decide)) rfl (glo_Field S) (pa_cons (pe_lc (own := [("row", 7)]) (g := gName 7) (tt := tYes) rfl sc_coarse.nd (kList (K := K) rfl (pe_slice (kSlL (K := K) rfl) (pv 3) po_none (po_some (pv 5)))) (blkOk_by (own := [("row", 7)]) (N := ["plan", "numbers", "step", "rows", "at", "height", "width", "row"]) (sc := defScope s_coarse) (by decide +kernel)) (fun _ _ _ _ _ => (pg_name (i := 7) sc_coarse.nd rfl (Or.inl rfl))) (fun _ _ _ _ _ => pts_nil) (fun _ _ _ _ _ => (pe_slice (kSlL (K := K) rfl) (pv 7) po_none (po_some (pv 6))))) pa_nil))))))))), ?_⟩
  have wl := F.wlen
  have zh := F.sz.h2
  tm_at "go"
  refine ⟨p, f, h, n, r, ws, g, rfl, F, Fd, hb, fun H1 s1 => ?_⟩
  have Fd1 := Fd.same s1
  have Fd0 := Fd1
  have F1 := F.same s1
  have F3 := F1
  obtain ⟨⟨dx2, la, rl, hf2, _⟩, _, _⟩ := Fd0
  obtain ⟨⟨dx, ru, ca, tc, hp, hr1, c⟩, _, _⟩ := F3
  tm_at "go"
  refine gMeE hp rfl ?_
  tm_at "go"
  refine ⟨p, h, n, r, ws, rfl, F1, ?_⟩
  refine ⟨_, _, _, rfl, by omega, by omega, ?_⟩
  tm_at "go"
  refine gMeE hf2 rfl ?_
  tm_at "go"
  refine ⟨f, h, n, g, rfl, Fd1, fun a ra H2 N => ?_⟩
  have R2 := RowsX.of N
  have F2 := F1.same N.same
  tm_at "go"
  refine gMeE (N.same _ _ hp) rfl ?_
  tm_at "go"
  refine ⟨p, h, n, r, ws, rfl, F2, ?_⟩
  refine gRvN2 (a := 0) (n := ws.length) (by omega) (by omega) ?_
  refine forIt (wRv2 (a := 0) (n := ws.length) (by omega)) (fun i σ H' => Kept (rs ra h) H2 H' ∧ RowsX H' a ra h n (bwd (bkr r) (h, n) ws g i) ∧ ∃ v, σ = [some (.ref p), some (.ref f), some (.int 0), some (.ref a), v, none, none, none]) ⟨Kept.refl _ _, R2, none, rfl⟩ (fun _ _ _ _ _ => trivial) ?_ ?_
  · rintro i x σ H3 H4 hi ⟨k, R3, v, rfl⟩ ⟨rfl, rfl⟩
    tm_at "go"
    have hl : ws[ws.length - 1 - i]? = some ws[ws.length - 1 - i] := List.getElem?_eq_getElem (by omega)
    refine ⟨p, a, ws.length - 1 - i, h, n, r, ws, _, ra, _, rfl, keptP R2.rows F2 k, R3, hl, fun H5 k5 R5 => ?_⟩
    refine ⟨k.trans k5, ?_, _, rfl⟩
    rw [show bwd (bkr r) (h, n) ws g (i + 1) = stepR (bkr r) ws[ws.length - 1 - i] (cnr (h, n) ws (ws.length - 1 - i)) (bwd (bkr r) (h, n) ws g i) by show (match ws[ws.length - 1 - i]? with | some l => _ | none => _) = _; rw [hl]]
    exact R5
  · rintro σ H3 ⟨k, R3, v, rfl⟩
    rw [Nat.sub_zero] at R3
    have s3 : Same H H3 := Kept.same (s1.trans N.same) k fun b ⟨y, hy, e⟩ => by rw [e]; exact s1.free (N.fr y hy)
    have F4 := F.same s3
    have F5 := F4
    obtain ⟨⟨dx3, ru3, ca3, tc3, hp3, hr3, c3⟩, _, _⟩ := F5
    tm_at "go"
    refine gMeE hp3 rfl ?_
    tm_at "go"
    refine ⟨p, h, n, r, ws, 0, rfl, F4, Nat.zero_le _, fun c0 hc0 => ?_⟩
    rw [cnr_zero] at hc0
    refine gTp (SqT.of hc0) rfl ?_
    tm_at "go"
    refine gSlL (SqL.of R3.rows.top) fun S1 hS1 => ?_
    generalize hg : upd _ _ _ = H4
    obtain ⟨s4, eS⟩ := newF hg hS1
    rw [cut_to (Nat.le_refl _)] at eS
    have R4 := R3.same s4
    refine gL1 (SqL.of eS) ?_
    intro D hD
    refine lcIt (wTab (m := h) (f := fun y => .ref (ra y))) (fun i H' => ∃ rb, NewL H4 H' D i rb fun y => .lst (irow n (bwd (bkr r) (h, n) ws g ws.length y))) ⟨ra, NewL.nil hD⟩ (fun i H' _ ⟨rb, z⟩ => SqL.of (z.same _ _ eS)) ?_ ?_
    · rintro i x H5 H6 hi ⟨rb, N5⟩ ⟨rfl, rfl⟩
      tm_at "go"
      refine ⟨rfl, ?_⟩
      tm_at "go"
      refine gSlL (SqL.of (N5.same _ _ (R4.rows.row i hi))) fun t ht => ?_
      refine ⟨_, get_new ht N5.top, by rw [tab_len]; exact line_lt (by omega), _, N5.push ht ?_ (Same.new ht)⟩
      rw [upd_same, show irow n (bwd (bkr r) (h, n) ws g ws.length i) = tab n fun x => .int (bwd (bkr r) (h, n) ws g ws.length i x) from rfl, cut_to (Nat.le_refl _)]
    · rintro H5 ⟨rb, N5⟩
      tm_at "go"
      exact fun x dx => mkField (RowsX.of N5).rows F.sz hb2 fun x H6 s6 _ F6 => q x H6 (s3.trans (s4.trans (N5.same.trans s6))) F6
theorem ok_put_back (S : TX K mg) : OkF P w K mg base 10 (He.ga K "put_back") (p_whole K 1000000000 backM) := by
  refine okF (F_put_back S) sc_put_back (by tm_at "len") (fun _ _ _ _ _ _ us hl => match us, hl with | [_, _], _ => rfl) (fun cdv A outer s H vs Q E hr h => ?_)
  obtain ⟨p, f, h, n, r, ws, g, rfl, F, Fd, hb, hb2, q⟩ := h
  refine ⟨_, (pss_one (ps_ret (pe_f (ok_coarse S) (hr.mono (by decide)) rfl (glo_coarse S) (pa_cons (pv 0) (pa_cons (pv 1) (pa_cons pe_int pa_nil)))))), ?_⟩
  tm_at "go"
  exact ⟨p, f, h, n, r, ws, g, rfl, F, Fd, hb, hb2, q⟩
theorem keptP2 {H H' : Hp} {a p : Addr} {ra : Nat → Addr} {h w h2 w2 : Nat} {g : G2} {r : Rl} {ws : List L} (R : Rows H a ra h w g) (f : PlanAt K H p h2 w2 r ws) (k : Kept (rs ra h) H H') : PlanAt K H' p h2 w2 r ws := keptP R f k
def p_carried_rows (K : PySem.W.Frag) : Pm := fun vs H Q => ∃ (p a : Addr) (h w : Nat) (r : Rl) (ws : List L) (ra : Nat → Addr) (g : G2), vs = [.ref p, .ref a] ∧ PlanAt K H p h w r ws ∧ RowsX H a ra h w g ∧ (∀ y, y < h → H (ra y) ≠ none) ∧
  ∀ H', Kept (rs ra h) H H' → RowsX H' a ra h w (worstM r (h, w) ws g) → Q .non H'
theorem ok_carried_rows (S : TX K mg) : OkF P w K mg base 9 (He.ga K "carried_rows") (p_carried_rows K) := by
  refine okF (F_carried_rows S) sc_carried_rows (by tm_at "len") (fun _ _ _ _ _ _ us hl => match us, hl with | [_, _], _ => rfl) (fun cdv A outer s H vs Q E hr h => ?_)
  obtain ⟨p, a, h, n, r, ws, ra, g, rfl, F, R, nra, q⟩ := h
  refine ⟨_, (pss_cons (ps_set (i := 2) sc_carried_rows.nd rfl (Or.inl rfl) (pe_f (ok_carrier_of S) (hr.mono (by decide)) rfl (glo_carrier_of S) (pa_cons (pe_d0 (k := 6) (m := "word") (pe_mt0 (pv 0) (cls_Plan S) (me_Plan_rule S) (ok_Plan_rule S) (hr.mono (by decide))) (hr.mono (by decide))) pa_nil)))
    (pss_one (ps_for PassesOwn.never rfl (pi_revR rfl (fr_reversed S) (prg_1 rfl (fr_range S) (pe_mt0 (pv 0) (cls_Plan S) (me_Plan_steps S) (ok_Plan_steps S) (hr.mono (by decide))))) (pg_name (i := 3) sc_carried_rows.nd rfl (Or.inl rfl)) (pss_cons (ps_if (pt_cmpR op_in_sign (pe_ix ix_str (pe_mt0 (pv 0) (cls_Plan S) (me_Plan_way S) (ok_Plan_way S) (hr.mono (by decide))) (pv 3) (fun _ _ => rfl)) pe_str rfl) (pss_one (ps_expr (pe_f (ok_along_pillars S) (hr.mono (by decide)) rfl (glo_along_pillars S) (pa_cons (pv 2) (pa_cons (pv 1) (pa_cons (pe_mt (pv 0) (cls_Plan S) (me_Plan_corner S) (ok_Plan_corner S) (hr.mono (by decide)) (pa_cons (pv 3) pa_nil)) pa_nil)))))) pss_nil)
    (pss_one (ps_if (pt_cmpR op_in_sign (pe_ix ix_str (pe_mt0 (pv 0) (cls_Plan S) (me_Plan_way S) (ok_Plan_way S) (hr.mono (by decide))) (pv 3) (fun _ _ => rfl)) pe_str rfl) (pss_one (ps_expr (pe_f (ok_along_rows S) (hr.mono (by decide)) rfl (glo_along_rows S) (pa_cons (pv 2) (pa_cons (pv 1) (pa_cons (pe_mt (pv 0) (cls_Plan S) (me_Plan_corner S) (ok_Plan_corner S) (hr.mono (by decide)) (pa_cons (pv 3) pa_nil)) pa_nil)))))) pss_nil)))))), ?_⟩
  have wl := F.wlen
  have z := F.sz
  have F0 := F
  obtain ⟨⟨dx, ru, ca, tc, hp, hr1, c⟩, _, _⟩ := F0
  tm_at "go"
  refine gMeE hp rfl ?_
  tm_at "go"
  refine ⟨p, h, n, r, ws, rfl, F, fun ru2 hr2 => ?_⟩
  obtain ⟨C, dx2, fw, e, cl, m, o⟩ := dyn_word S (P := P) (w := w) (base := base) hr2
  refine ⟨ru2, C, dx2, [], fw, _, rfl, e, rfl, cl, m, o, ?_⟩
  tm_at "go"
  refine ⟨_, rfl, ?_⟩
  tm_at "go"
  refine ⟨r, rfl, fun cr H1 s1 _ hcr => ?_⟩
  have F1 := F.same s1
  have R1 := R.same s1
  tm_at "go"
  refine gMeE (s1 _ _ hp) rfl ?_
  tm_at "go"
  refine ⟨p, h, n, r, ws, rfl, F1, ?_⟩
  refine gRvN (n := ws.length) (by omega) ?_
  refine forIt (wRv0 (n := ws.length)) (fun i σ H' => Kept (rs ra h) H1 H' ∧ RowsX H' a ra h n (bwd (cbr r) (h, n) ws g i) ∧ ∃ v, σ = [some (.ref p), some (.ref a), some (.ref cr), v]) ⟨Kept.refl _ _, R1, none, rfl⟩ (fun _ _ _ _ _ => trivial) ?_ ?_
  · rintro i x σ H3 H4 hi ⟨k0, R3, v, rfl⟩ ⟨rfl, rfl⟩
    obtain ⟨l, hl⟩ : ∃ l, ws[ws.length - 1 - i]? = some l := ⟨_, List.getElem?_eq_getElem (by omega)⟩
    have ew : bwd (cbr r) (h, n) ws g (i + 1) = stepR (cbr r) l (cnr (h, n) ws (ws.length - 1 - i)) (bwd (cbr r) (h, n) ws g i) := by show (match ws[ws.length - 1 - i]? with | some l => _ | none => _) = _; rw [hl]
    rw [ew]
    generalize ws.length - 1 - i = k at *
    have hk : k < ws.length := (List.getElem?_eq_some_iff.mp hl).1
    obtain ⟨le1, le2⟩ := cnr_le ws k (h, n)
    obtain ⟨w1, w2⟩ := F.ok.at hl
    dsimp only at le1 le2
    have F3 := keptP R1.rows F1 k0
    have F4 := F3
    obtain ⟨⟨dx3, ru3, ca3, tc3, hp3, hr3, c3⟩, _, _⟩ := F4
    have hcr3 := keptC R1.rows hcr k0
    tm_at "go"
    refine gMeE hp3 rfl ?_
    tm_at "go"
    refine ⟨p, h, n, r, ws, rfl, F3, ?_⟩
    tm_at "go"
    refine gIxW hl wl ?_
    tm_at "go"
    refine in_lt ?_
    rw [inPB]
    cases l with
    | p =>
      tm_at "go"
      refine gMeE hp3 rfl ?_
      tm_at "go"
      refine ⟨p, h, n, r, ws, k, rfl, F3, by omega, fun tc2 hc2 => ?_⟩
      tm_at "go"
      refine ⟨cr, a, tc2, r, ra, h, n, _, _, rfl, hcr3, R3, z, hc2, ⟨le1, le2, w2 rfl⟩, fun H5 k5 R5 => ?_⟩
      have F5 := keptP R3.rows F3 k5
      have F6 := F5
      obtain ⟨⟨dx6, ru6, ca6, tc6, hp6, hr6, c6⟩, _, _⟩ := F6
      tm_at "go"
      refine gMeE hp6 rfl ?_
      tm_at "go"
      refine ⟨p, h, n, r, ws, rfl, F5, ?_⟩
      tm_at "go"
      refine gIxW hl wl ?_
      tm_at "go"
      refine in_lt ?_
      rw [inRB]
      tm_at "go"
      exact ⟨k0.trans k5, R5, _, rfl⟩
    | r =>
      tm_at "go"
      refine gMeE hp3 rfl ?_
      tm_at "go"
      refine ⟨p, h, n, r, ws, rfl, F3, ?_⟩
      tm_at "go"
      refine gIxW hl wl ?_
      tm_at "go"
      refine in_lt ?_
      rw [inRB]
      tm_at "go"
      refine gMeE hp3 rfl ?_
      tm_at "go"
      refine ⟨p, h, n, r, ws, k, rfl, F3, by omega, fun tc2 hc2 => ?_⟩
      tm_at "go"
      exact ⟨cr, a, tc2, r, ra, h, n, _, _, rfl, hcr3, R3, z, hc2, ⟨le1, le2, w1 rfl⟩, fun H5 k5 R5 => ⟨k0.trans k5, R5, _, rfl⟩⟩
    | b =>
      tm_at "go"
      refine gMeE hp3 rfl ?_
      tm_at "go"
      refine ⟨p, h, n, r, ws, k, rfl, F3, by omega, fun tc2 hc2 => ?_⟩
      tm_at "go"
      refine ⟨cr, a, tc2, r, ra, h, n, _, _, rfl, hcr3, R3, z, hc2, ⟨le1, le2, w2 rfl⟩, fun H5 k5 R5 => ?_⟩
      have F5 := keptP R3.rows F3 k5
      have F6 := F5
      obtain ⟨⟨dx6, ru6, ca6, tc6, hp6, hr6, c6⟩, _, _⟩ := F6
      have hcr5 := keptC R3.rows hcr3 k5
      tm_at "go"
      refine gMeE hp6 rfl ?_
      tm_at "go"
      refine ⟨p, h, n, r, ws, rfl, F5, ?_⟩
      tm_at "go"
      refine gIxW hl wl ?_
      tm_at "go"
      refine in_lt ?_
      rw [inRB]
      tm_at "go"
      refine gMeE hp6 rfl ?_
      tm_at "go"
      refine ⟨p, h, n, r, ws, k, rfl, F5, by omega, fun tc2 hc2 => ?_⟩
      tm_at "go"
      exact ⟨cr, a, tc2, r, ra, h, n, _, _, rfl, hcr5, R5, z, hc2, ⟨le1, le2, w1 rfl⟩, fun H7 k7 R7 => ⟨(k0.trans k5).trans k7, R7, _, rfl⟩⟩
  · rintro σ H3 ⟨k, R3, v, rfl⟩
    exact q _ ((Kept.of s1).trans k) R3
theorem ok_need_errors (S : TX K mg) : OkF P w K mg base 5 (He.ga K "need_errors") (p_need_errors K) := by
  refine okF (F_need_errors S) sc_need_errors (by tm_at "len") (fun _ _ _ _ _ _ us hl => match us, hl with | [_, _], _ => rfl) (fun cdv A outer s H vs Q E hr h => ?_)
  obtain ⟨tMOST_ERROR, gMOST_ERROR⟩ := int_MOST_ERROR S
  obtain ⟨p, f, h, n, r, ws, g, rfl, F, Fd, hb, q⟩ := h
  refine ⟨_, (pss_cons (ps_expr (pe_f (ok_need_field S) (hr.mono (by decide)) rfl (glo_need_field S) (pa_cons (pv 1) (pa_cons (pe_mt (pv 0) (cls_Plan S) (me_Plan_corner S) (ok_Plan_corner S) (hr.mono (by decide)) (pa_cons pe_int pa_nil)) (pa_cons (pe_op op_pow pe_int pe_int) pa_nil)))))
    (pss_one (ps_for PassesOwn.never rfl (kList (K := K) rfl (pe_mt0 (pv 1) (cls_Field S) (me_Field_places S) (ok_Field_places S) (hr.mono (by decide)))) (pg_name (i := 2) sc_need_errors.nd rfl (Or.inl rfl)) (pss_one (ps_if (pt_not (pt_val (pe_f (ok_is_whole S) (hr.mono (by decide)) rfl (glo_is_whole S) (pa_cons (pe_mt (pv 1) (cls_Field S) (me_Field_at S) (ok_Field_at S) (hr.mono (by decide)) (pa_cons (pv 2) pa_nil)) (pa_cons pe_int (pa_cons (pe_glob (v := .int 1073741824) rfl gMOST_ERROR ⟨_, rfl⟩) pa_nil)))))) (pss_one ps_never) pss_nil))))), ?_⟩
  have z := F.sz
  have F0 := F
  obtain ⟨⟨dx, ru, ca, tc, hp, hr1, c⟩, _, _⟩ := F0
  tm_at "go"
  refine gMeE hp rfl ?_
  tm_at "go"
  refine ⟨p, h, n, r, ws, 0, rfl, F, Nat.zero_le _, fun c0 hc0 => ?_⟩
  rw [cnr_zero] at hc0
  tm_at "go"
  refine gI ⟨by decide, by decide, by decide⟩ ?_
  tm_at "go"
  refine ⟨f, c0, h, n, g, _, rfl, Fd, hc0, fun y x hy hx => ?_, fun H1 s1 => ?_⟩
  · have := hb y x hy hx
    have e : (10 : Int) ^ (15 : Int).toNat = 1000000000000000 := by decide
    rw [e]
    omega
  have Fd1 := Fd.same s1
  have Fd0 := Fd1
  obtain ⟨⟨dx2, la, rl, hf2, _⟩, _, _⟩ := Fd0
  tm_at "go"
  refine gMeE hf2 rfl ?_
  tm_at "go"
  refine ⟨f, h, n, g, rfl, Fd1, fun D H2 ta s2 hD hta => ?_⟩
  refine gL1 (SqL.of hD) ?_
  refine forIt (wTab (m := h * n) (f := fun k => .ref (ta k))) (fun i σ H' => H' = H2 ∧ ∃ v, σ = [some (.ref p), some (.ref f), v]) ⟨rfl, none, rfl⟩ (fun i σ H' _ z => by rw [z.1]; exact SqL.of hD) ?_ ?_
  · rintro i x σ H3 H4 hi ⟨rfl, v, rfl⟩ ⟨rfl, rfl⟩
    tm_at "go"
    refine gMeE (s2 _ _ hf2) rfl ?_
    have n0 : 0 < n := z.w1
    have y1 : i / n < h := Nat.div_lt_of_lt_mul (by rw [Nat.mul_comm]; exact hi)
    have x1 : i % n < n := Nat.mod_lt i n0
    tm_at "go"
    refine ⟨f, ta i, h, n, g, i / n, i % n, rfl, Fd1.same s2, hta i hi, y1, x1, ?_⟩
    tm_at "go"
    refine ⟨_, _, _, rfl, (hb _ _ y1 x1).1, (hb _ _ y1 x1).2, ?_⟩
    tm_at "go"
    exact ⟨rfl, _, rfl⟩
  · rintro σ H3 ⟨rfl, v, rfl⟩
    exact q _ (s1.trans s2)
theorem ok_worst (S : TX K mg) : OkF P w K mg base 10 (He.ga K "worst") (p_worst K) := by
  refine okF (F_worst S) sc_worst (by tm_at "len") (fun _ _ _ _ _ _ us hl => match us, hl with | [_, _], _ => rfl) (fun cdv A outer s H vs Q E hr h => ?_)
  obtain ⟨p, f, h, n, r, ws, g, rfl, F, Fd, hb, hb2, q⟩ := h
  refine ⟨_, (pss_cons (ps_expr (pe_f (ok_need_errors S) (hr.mono (by decide)) rfl (glo_need_errors S) (pa_cons (pv 0) (pa_cons (pv 1) pa_nil))))
    (pss_cons (ps_set (i := 2) sc_worst.nd rfl (Or.inl rfl) (pe_mt0 (pv 1) (cls_Field S) (me_Field_rows S) (ok_Field_rows S) (hr.mono (by decide))))
    (pss_cons (ps_expr (pe_f (ok_carried_rows S) (hr.mono (by decide)) rfl (glo_carried_rows S) (pa_cons (pv 0) (pa_cons (pv 2) pa_nil))))
    (pss_one (ps_ret (pe_mk (mkr_Field S) (ok_Field_init S) (hr.mono (by decide)) rfl (glo_Field S) (pa_cons (pv 2) pa_nil))))))), ?_⟩
  tm_at "go"
  refine ⟨p, f, h, n, r, ws, g, rfl, F, Fd, hb, fun H1 s1 => ?_⟩
  have Fd1 := Fd.same s1
  have Fd0 := Fd1
  obtain ⟨⟨dx2, la, rl, hf2, _⟩, _, _⟩ := Fd0
  tm_at "go"
  refine gMeE hf2 rfl ?_
  tm_at "go"
  refine ⟨f, h, n, g, rfl, Fd1, fun a ra H2 N => ?_⟩
  have R2 := RowsX.of N
  have F2 := (F.same s1).same N.same
  tm_at "go"
  refine ⟨p, a, h, n, r, ws, ra, g, rfl, F2, R2, fun y hy => by rw [R2.rows.row y hy]; exact Option.some_ne_none _, fun H3 k3 R3 => ?_⟩
  have s3 : Same H H3 := Kept.same (s1.trans N.same) k3 fun b ⟨y, hy, e⟩ => by rw [e]; exact s1.free (N.fr y hy)
  tm_at "go"
  exact fun x dx => mkField R3.rows F.sz hb2 fun x H4 s4 _ F4 => q x H4 (s3.trans s4) F4
end
end Kp
/-! fields made: their rows are new -/
namespace Kp
open PySem PySem.Spec L2
/-- the rows of the field are none of N -/
def FieldN (K : PySem.W.Frag) (H : Hp) (p : Addr) (N : Addr → Prop) : Prop := ∃ (dx a : Addr) (ra : Nat → Addr) (m : Nat), H p = some (.ins (He.ga K "Field") dx (fF a)) ∧ H a = some (.lst (tab m fun y => .ref (ra y))) ∧ ∀ y, y < m → ¬ N (ra y)
theorem FieldN.mono {K : PySem.W.Frag} {H : Hp} {p : Addr} {M N : Addr → Prop} (x : FieldN K H p N) (h : ∀ b, M b → N b) : FieldN K H p M := let ⟨dx, a, ra, m, e1, e2, e3⟩ := x; ⟨dx, a, ra, m, e1, e2, fun y hy z => e3 y hy (h _ z)⟩
theorem _root_.L2.Same.nn {H H' : Hp} (s : Same H H') {b : Addr} (h : H b ≠ none) : H' b ≠ none := fun e => by
  cases q : H b with
  | none => exact h q
  | some o => rw [s _ _ q] at e; cases e
def p_FieldN_init (K : PySem.W.Frag) : Pm := fun vs H Q => ∃ (p dx a : Addr) (ra : Nat → Addr) (h w : Nat) (g : Nat → Nat → Int), vs = [.ref p, .ref a] ∧ H p = some (.ins (He.ga K "Field") dx []) ∧ Rows H a ra h w g ∧ Sz h w ∧ Bd 999999999999999 h w g ∧
  ∀ H', (∀ b o, b ≠ p → H b = some o → H' b = some o) → FieldAt K H' p h w g → FieldN K H' p (fun b => H b ≠ none) → Q .non H'
theorem mkFieldN {K : PySem.W.Frag} {H : Hp} {a x dx : Addr} {ra : Nat → Addr} {h w : Nat} {g : G2} {Q : VK} (R : Rows H a ra h w g) (z : Sz h w) (hb : Bd 999999999999999 h w g) (q : ∀ x H2, Same H H2 → H x = none → FieldAt K H2 x h w g → FieldN K H2 x (fun b => H b ≠ none) → Q (.ref x) H2) (h1 : H x = none) (h2 : H dx = none) (n : dx ≠ x) :
    p_FieldN_init K [.ref x, .ref a] (upd (upd H dx (.own x)) x (.ins (He.ga K "Field") dx [])) fun v H2 => v = .non ∧ Q (.ref x) H2 := by
  have s2 : Same H (upd (upd H dx (.own x)) x (.ins (He.ga K "Field") dx [])) := (Same.new h2).trans (Same.new (by rw [upd_ne n.symm]; exact h1))
  exact ⟨x, dx, a, ra, h, w, g, rfl, upd_same, R.same s2, z, hb, fun H' s F N => ⟨rfl, q x H' (fun b o e => s b o (ne_of_none e h1) (s2 _ _ e)) h1 F (N.mono fun b hb => s2.nn hb)⟩⟩
def p_wholeN (K : PySem.W.Frag) (b : Int) (F : Rl → Nat × Nat → List L → G2 → G2) : Pm := fun vs H Q => ∃ (p f : Addr) (h w : Nat) (r : Rl) (ws : List L) (g : G2), vs = [.ref p, .ref f] ∧ PlanAt K H p h w r ws ∧ FieldAt K H f h w g ∧ Bd b h w g ∧ Bd 999999999999999 h w (F r (h, w) ws g) ∧
  ∀ a H', Same H H' → FieldAt K H' a h w (F r (h, w) ws g) → FieldN K H' a (fun b => H b ≠ none) → Q (.ref a) H'
section
variable {P : Program} {w : World} {K : PySem.W.Frag} {mg : Str → Option Value} {base : Heap}
theorem ok_FieldN_init (S : TX K mg) : OkF P w K mg base 4 (He.ma K (He.ga K "Field") "__init__") (p_FieldN_init K) := by
  refine okF (F_Field_init S) sc_Field_init (by tm_at "len") (fun _ _ _ _ _ _ us hl => match us, hl with | [_, _], _ => rfl) (fun cdv A outer s H vs Q E hr h => ?_)
  obtain ⟨p, dx, a, ra, h, n, g, rfl, hp, R, z, hb, q⟩ := h
  refine ⟨_, (pss_cons (ps_if (pt_not (pt_val (pe_f (ok_are_rows S) (hr.mono (by decide)) rfl (glo_are_rows S) (pa_cons (pv 1) pa_nil)))) (pss_one ps_never) pss_nil)
    (pss_one (kSFld (K := K) rfl (pv 0) (pe_lc (own := [("row", 2)]) (g := gName 2) (tt := tYes) rfl sc_Field_init.nd (kList (K := K) rfl (pv 1)) (blkOk_by (own := [("row", 2)]) (N := ["self", "rows", "row"]) (sc := defScope s_Field_init) (by decide +kernel)) (fun _ _ _ _ _ => (pg_name (i := 2) sc_Field_init.nd rfl (Or.inl rfl))) (fun _ _ _ _ _ => pts_nil) (fun _ _ _ _ _ => (pe_callTy (kListOf (K := K) rfl) rfl (fr_list S) bt_list (pa_cons (pv 2) pa_nil)))) rfl))), ?_⟩
  tm_at "go"
  refine ⟨a, ra, h, n, g, rfl, R, z, hb, ?_⟩
  tm_at "go"
  refine gL1 (SqL.of R.top) ?_
  intro D hD
  refine lcIt (wTab (m := h) (f := fun y => .ref (ra y))) (fun i H' => ∃ rb, NewL H H' D i rb fun y => .lst (irow n (g y))) ⟨ra, NewL.nil hD⟩ (fun i H' _ ⟨rb, z⟩ => SqL.of (z.same _ _ R.top)) ?_ ?_
  · rintro i x H1 H2 hi ⟨rb, N⟩ ⟨rfl, rfl⟩
    tm_at "go"
    refine ⟨rfl, ?_⟩
    tm_at "go"
    refine ⟨ra i, _, rfl, .inl (SqL.of (N.same _ _ (R.row i hi))), fun l hl => ?_⟩
    refine ⟨_, get_new hl N.top, by rw [tab_len]; exact line_lt (by have := z.h2; omega), _, N.push hl upd_same (Same.new hl)⟩
  · rintro H1 ⟨rb, N⟩
    tm_at "go"
    refine ⟨p, _, dx, [], rfl, N.same _ _ hp, cls_Field S, na_Field_lines S, by decide, ?_⟩
    have pD : p ≠ D := ne_of_none hp hD
    refine q _ (fun b o nb e => by rw [upd_ne nb]; exact N.same _ _ e) ⟨⟨dx, D, rb, upd_same, ?_⟩, z, hb⟩ ⟨dx, D, rb, h, upd_same, by rw [upd_ne pD.symm]; exact N.top, fun y hy nn => nn (N.fr y hy)⟩
    have np : ∀ i, i < h → rb i ≠ p := fun i hi e => by
      have k := N.fr i hi
      rw [e, hp] at k
      cases k
    exact ⟨by rw [upd_ne pD.symm]; exact N.top, fun y hy => by rw [upd_ne (np y hy)]; exact N.it y hy⟩
theorem ok_halvedN (S : TX K mg) : OkF P w K mg base 9 (He.ga K "halved") (p_wholeN K 100000 halvedM) := by
  refine okF (F_halved S) sc_halved (by tm_at "len") (fun _ _ _ _ _ _ us hl => match us, hl with | [_, _], _ => rfl) (fun cdv A outer s H vs Q E hr h => ?_)
  obtain ⟨p, f, h, n, r, ws, g, rfl, F, Fd, hb, hb2, q⟩ := h
  refine ⟨_, (pss_cons (ps_expr (pe_f (ok_need_picture S) (hr.mono (by decide)) rfl (glo_need_picture S) (pa_cons (pv 0) (pa_cons (pv 1) pa_nil))))
    (pss_cons (ps_set (i := 2) sc_halved.nd rfl (Or.inl rfl) (pe_mt0 (pv 1) (cls_Field S) (me_Field_rows S) (ok_Field_rows S) (hr.mono (by decide))))
    (pss_cons (ps_for PassesOwn.never rfl (pi_range1 rfl (fr_range S) (pa_cons (pe_mt0 (pv 0) (cls_Plan S) (me_Plan_steps S) (ok_Plan_steps S) (hr.mono (by decide))) pa_nil)) (pg_name (i := 3) sc_halved.nd rfl (Or.inl rfl)) (pss_one (ps_expr (pe_f (ok_step_halved S) (hr.mono (by decide)) rfl (glo_step_halved S) (pa_cons (pv 0) (pa_cons (pv 2) (pa_cons (pv 3) pa_nil)))))))
    (pss_one (ps_ret (pe_mk (mkr_Field S) (ok_FieldN_init S) (hr.mono (by decide)) rfl (glo_Field S) (pa_cons (pv 2) pa_nil))))))), ?_⟩
  have wl := F.wlen
  tm_at "go"
  refine ⟨p, f, h, n, r, ws, g, rfl, F, Fd, hb, fun H1 s1 => ?_⟩
  have Fd1 := Fd.same s1
  have Fd0 := Fd1
  obtain ⟨⟨dx2, la, rl, hf2, _⟩, _, _⟩ := Fd0
  tm_at "go"
  refine gMeE hf2 rfl ?_
  tm_at "go"
  refine ⟨f, h, n, g, rfl, Fd1, fun a ra H2 N => ?_⟩
  have R2 := RowsX.of N
  have F2 := (F.same s1).same N.same
  have F0 := F2
  obtain ⟨⟨dx, ru, ca, tc, hp, hr1, c⟩, _, _⟩ := F0
  tm_at "go"
  refine gMeE hp rfl ?_
  tm_at "go"
  refine ⟨p, h, n, r, ws, rfl, F2, ?_⟩
  refine gR1 (by omega) ?_
  rw [Int.toNat_natCast]
  refine forIt (wRange (m := ws.length)) (fun i σ H' => Kept (rs ra h) H2 H' ∧ RowsX H' a ra h n (fwd r (h, n) ws g i) ∧ ∃ v, σ = [some (.ref p), some (.ref f), some (.ref a), v]) ⟨Kept.refl _ _, R2, none, rfl⟩ (fun _ _ _ _ _ => trivial) ?_ ?_
  · rintro i x σ H3 H4 hi ⟨k, R3, v, rfl⟩ ⟨rfl, rfl⟩
    tm_at "go"
    have hl : ws[i]? = some ws[i] := List.getElem?_eq_getElem hi
    refine ⟨p, a, i, h, n, r, ws, ws[i], ra, _, rfl, keptP R2.rows F2 k, R3, hl, fun H5 k5 R5 => ?_⟩
    refine ⟨k.trans k5, ?_, _, rfl⟩
    rw [show fwd r (h, n) ws g (i + 1) = stepF (hv r) ws[i] (cnr (h, n) ws i) (fwd r (h, n) ws g i) by show (match ws[i]? with | some l => _ | none => _) = _; rw [hl]]
    exact R5
  · rintro σ H3 ⟨k, R3, v, rfl⟩
    have s3 : Same H H3 := Kept.same (s1.trans N.same) k fun b ⟨y, hy, e⟩ => by rw [e]; exact s1.free (N.fr y hy)
    tm_at "go"
    exact fun x dx => mkFieldN R3.rows F.sz hb2 fun x H4 s4 _ F4 N4 => q x H4 (s3.trans s4) F4 (N4.mono fun b hb => s3.nn hb)
end
end Kp
/-! plain: which places spread to which, as the program lists them -/
namespace Kp
def flt (p : Int → Bool) (lo : Int) : Nat → List Int
  | 0 => []
  | m + 1 => if p (lo + (m : Int)) = true then flt p lo m ++ [lo + (m : Int)] else flt p lo m
def inH (n : Nat) (k : Int) : Bool := decide (0 ≤ k) && decide (k < (hf n : Nat))
def inP (n : Nat) (k : Int) : Bool := decide (0 ≤ k) && decide (k < (n / 2 : Nat))
def nearS (n : Nat) (a : Int) : List Int := flt (inH n) (a - 1) 3
def nearD (n : Nat) (a : Int) : List Int := (if inP n (a - 1) = true then [a - 1] else []) ++ (if inP n a = true then [a] else [])
def sum0 (n : Nat) (a : Int) : List Int := if a = ((n / 2 : Nat) : Int) then [2 * a] else [2 * a, 2 * a + 1]
def dif0 (_ : Nat) (a : Int) : List Int := [2 * a, 2 * a + 1]
def difL (n : Nat) (a : Int) : List Int := (nearS n a).flatMap (sum0 n)
def difG (n : Nat) (a : Int) : List Int := flt (fun k => decide (k < (n : Int))) (2 * a) 3
def sumG (n : Nat) (a : Int) : List Int := [2 * a] ++ (nearD n a).flatMap (difG n)
def first0 (n : Nat) (a : Int) : List Int := if a = ((n / 2 : Nat) : Int) then [a] else [a, ((hf n : Nat) : Int) + a]
def firstL (n : Nat) (a : Int) : List Int := if a = ((n / 2 : Nat) : Int) then [a] else nearS n a ++ [((hf n : Nat) : Int) + a]
def firstG (n : Nat) (a : Int) : List Int := [a] ++ (nearD n a).map fun k => ((hf n : Nat) : Int) + k
def secondG (n : Nat) (a : Int) : List Int := if 2 * a + 2 < (n : Int) then ([((hf n : Nat) : Int) + a] ++ firstG n a) ++ firstG n (a + 1) else [((hf n : Nat) : Int) + a] ++ firstG n a
def sumPl : Rl → Nat → Int → List Int
  | .guess => sumG
  | _ => sum0
def difPl : Rl → Nat → Int → List Int
  | .guess => difG
  | .lean => difL
  | _ => dif0
def firstN : Rl → Nat → Int → List Int
  | .guess => firstG
  | .lean => firstL
  | _ => first0
def secondN : Rl → Nat → Int → List Int
  | .guess => secondG
  | r => firstN r
def spreadL (r : Rl) (n : Nat) (p : Int) : List Int := if p < (hf n : Nat) then sumPl r n p else difPl r n (p - (hf n : Nat))
def backL (r : Rl) (n : Nat) (p : Int) : List Int := if p % 2 = 1 then secondN r n (p / 2) else firstN r n (p / 2)
theorem flt_len {p : Int → Bool} {lo : Int} : ∀ m, (flt p lo m).length ≤ m
  | 0 => Nat.le_refl 0
  | m + 1 => by
    have h := flt_len (p := p) (lo := lo) m
    unfold flt
    split
    · rw [List.length_append, List.length_singleton]; omega
    · omega
theorem sum0_len {n : Nat} {a : Int} : (sum0 n a).length ≤ 2 := by unfold sum0; split <;> simp
theorem nearD_len {n : Nat} {a : Int} : (nearD n a).length ≤ 2 := by
  unfold nearD
  rw [List.length_append]
  split <;> split <;> simp
theorem flat_len {α β : Type} {f : α → List β} {b : Nat} (h : ∀ x, (f x).length ≤ b) : ∀ l : List α, (l.flatMap f).length ≤ l.length * b
  | [] => by simp
  | x :: l => by
    have h1 := flat_len h l
    have h2 := h x
    rw [List.flatMap_cons, List.length_append, List.length_cons, Nat.succ_mul]
    omega
theorem firstN_len (r : Rl) {n : Nat} {a : Int} : (firstN r n a).length ≤ 4 := by
  cases r <;> unfold firstN <;> dsimp only
  · unfold first0; split <;> simp
  · unfold first0; split <;> simp
  · have := nearD_len (n := n) (a := a)
    unfold firstG
    rw [List.length_append, List.length_map, List.length_singleton]
    omega
  · unfold firstL
    split
    · simp
    · have : (nearS n a).length ≤ 3 := flt_len 3
      rw [List.length_append, List.length_singleton]
      omega
theorem sumPl_len (r : Rl) {n : Nat} {a : Int} : (sumPl r n a).length ≤ 7 := by
  have s0 := sum0_len (n := n) (a := a)
  cases r <;> unfold sumPl <;> dsimp only
  · omega
  · omega
  · have h1 := nearD_len (n := n) (a := a)
    have h2 := flat_len (f := difG n) (b := 3) (fun x => flt_len 3) (nearD n a)
    unfold sumG
    rw [List.length_append, List.length_singleton]
    omega
  · omega
theorem difPl_len (r : Rl) {n : Nat} {a : Int} : (difPl r n a).length ≤ 6 := by
  cases r <;> unfold difPl <;> dsimp only
  · simp [dif0]
  · simp [dif0]
  · have : (difG n a).length ≤ 3 := flt_len 3
    omega
  · have h1 : (nearS n a).length ≤ 3 := flt_len 3
    have h2 := flat_len (f := sum0 n) (b := 2) (fun x => sum0_len) (nearS n a)
    unfold difL
    omega
theorem secondN_len (r : Rl) {n : Nat} {a : Int} : (secondN r n a).length ≤ 9 := by
  have f0 := firstN_len r (n := n) (a := a)
  cases r <;> unfold secondN <;> dsimp only
  · omega
  · omega
  · have f1 : (firstG n (a + 1)).length ≤ 4 := firstN_len .guess
    have f2 : (firstG n a).length ≤ 4 := firstN_len .guess
    unfold secondG
    split <;> simp only [List.length_append, List.length_singleton] <;> omega
  · omega
theorem spreadL_len (r : Rl) {n : Nat} {p : Int} : (spreadL r n p).length ≤ 9 := by
  unfold spreadL
  split
  · have := sumPl_len r (n := n) (a := p); omega
  · have := difPl_len r (n := n) (a := p - (hf n : Nat)); omega
theorem backL_len (r : Rl) {n : Nat} {p : Int} : (backL r n p).length ≤ 9 := by
  unfold backL
  split
  · exact secondN_len r
  · have := firstN_len r (n := n) (a := p / 2); omega
theorem flt_mem {p : Int → Bool} {lo k : Int} : ∀ {m : Nat}, k ∈ flt p lo m → p k = true ∧ lo ≤ k ∧ k < lo + (m : Int)
  | 0, h => by cases h
  | m + 1, h => by
    unfold flt at h
    split at h
    · rename_i e
      rcases List.mem_append.mp h with h | h
      · obtain ⟨a, b, c⟩ := flt_mem h
        exact ⟨a, b, by omega⟩
      · rw [List.mem_singleton] at h
        subst h
        exact ⟨e, by omega, by omega⟩
    · obtain ⟨a, b, c⟩ := flt_mem h
      exact ⟨a, b, by omega⟩
theorem nearS_mem {n : Nat} {a k : Int} (h : k ∈ nearS n a) : 0 ≤ k ∧ k < ((hf n : Nat) : Int) ∧ a - 1 ≤ k ∧ k ≤ a + 1 := by
  obtain ⟨e, h1, h2⟩ := flt_mem h
  unfold inH at e
  rw [Bool.and_eq_true, decide_eq_true_iff, decide_eq_true_iff] at e
  exact ⟨e.1, e.2, h1, by omega⟩
theorem nearD_mem {n : Nat} {a k : Int} (h : k ∈ nearD n a) : 0 ≤ k ∧ k < ((n / 2 : Nat) : Int) ∧ (k = a - 1 ∨ k = a) := by
  unfold nearD inP at h
  rcases List.mem_append.mp h with h | h
  · split at h
    · rename_i e
      rw [Bool.and_eq_true, decide_eq_true_iff, decide_eq_true_iff] at e
      rw [List.mem_singleton] at h
      subst h
      exact ⟨e.1, e.2, .inl rfl⟩
    · cases h
  · split at h
    · rename_i e
      rw [Bool.and_eq_true, decide_eq_true_iff, decide_eq_true_iff] at e
      rw [List.mem_singleton] at h
      subst h
      exact ⟨e.1, e.2, .inr rfl⟩
    · cases h
theorem flat_snoc {α β : Type} {f : α → List β} {l : List α} {i : Nat} {k : α} (h : l[i]? = some k) : (l.take (i + 1)).flatMap f = (l.take i).flatMap f ++ f k := by
  rw [take_snoc h, List.flatMap_append]
  simp
theorem map_snoc {α β : Type} {f : α → β} {l : List α} {i : Nat} {k : α} (h : l[i]? = some k) : (l.take (i + 1)).map f = (l.take i).map f ++ [f k] := by
  rw [take_snoc h, List.map_append]
  rfl
theorem nodup_lt : ∀ (N : Nat) (l : List Nat), l.Nodup → (∀ x ∈ l, x < N) → l.length ≤ N
  | 0, l, _, h => by
    cases l with
    | nil => exact Nat.le_refl 0
    | cons a l => exact absurd (h a List.mem_cons_self) (by omega)
  | N + 1, l, hn, h => by
    have h1 := nodup_lt N (l.filter fun x => decide (x ≠ N)) (hn.filter _) fun x hx => by
      obtain ⟨a, b⟩ := List.mem_filter.mp hx
      have := h x a
      have := of_decide_eq_true b
      omega
    have h2 : l.length ≤ (l.filter fun x => decide (x ≠ N)).length + 1 := by
      clear h h1
      induction l with
      | nil => simp
      | cons a l ih =>
        obtain ⟨na, nl⟩ := List.nodup_cons.mp hn
        by_cases e : a = N
        · subst e
          have e2 : l.filter (fun x => decide (x ≠ a)) = l := List.filter_eq_self.mpr fun x hx => decide_eq_true (fun z => na (by rw [← z]; exact hx))
          rw [List.filter_cons_of_neg (by simp), e2, List.length_cons]
          exact Nat.le_refl _
        · have := ih nl
          rw [List.filter_cons_of_pos (by simp [e]), List.length_cons, List.length_cons]
          omega
    omega
theorem grid_len {l : List (Nat × Nat)} (hn : l.Nodup) (h : ∀ q ∈ l, q.1 < 64 ∧ q.2 < 64) : l.length ≤ 4096 := by
  have h1 := nodup_lt 4096 (l.map fun q => q.1 * 64 + q.2) ?_ ?_
  · rw [List.length_map] at h1
    exact h1
  · rw [List.nodup_iff_pairwise_ne, List.pairwise_map]
    refine List.Pairwise.imp_of_mem (R := fun a b => a ≠ b) (fun {a b} ha hb ne e => ?_) (List.nodup_iff_pairwise_ne.mp hn)
    have h1 := h a ha
    have h2 := h b hb
    exact ne (Prod.ext (by omega) (by omega))
  · intro x hx
    obtain ⟨q, hq, rfl⟩ := List.mem_map.mp hx
    have := h q hq
    omega
/-- how a step's table moves a place: rows, pillars -/
def relR (L : Int → List Int) (c p q : Nat × Nat) : Prop := (p.1 < c.1 ∧ p.2 < c.2 ∧ q.1 = p.1 ∧ (q.2 : Int) ∈ L (p.2 : Int)) ∨ (¬ (p.1 < c.1 ∧ p.2 < c.2) ∧ q = p)
def relP (L : Int → List Int) (c p q : Nat × Nat) : Prop := (p.1 < c.1 ∧ p.2 < c.2 ∧ q.2 = p.2 ∧ (q.1 : Int) ∈ L (p.1 : Int)) ∨ (¬ (p.1 < c.1 ∧ p.2 < c.2) ∧ q = p)
/-! ### the lists stay inside -/
theorem sum0_in {n : Nat} {a k : Int} (ha : 0 ≤ a) (h : a < ((hf n : Nat) : Int)) (hk : k ∈ sum0 n a) : 0 ≤ k ∧ k < (n : Int) := by
  unfold hf at h
  unfold sum0 at hk
  split at hk
  · simp only [List.mem_cons, List.not_mem_nil, or_false] at hk
    omega
  · simp only [List.mem_cons, List.not_mem_nil, or_false] at hk
    rcases hk with hk | hk <;> omega
theorem difG_in {n : Nat} {a k : Int} (ha : 0 ≤ a) (hk : k ∈ difG n a) : 0 ≤ k ∧ k < (n : Int) := by
  obtain ⟨e, h1, h2⟩ := flt_mem hk
  have := of_decide_eq_true e
  omega
theorem sumPl_in (r : Rl) {n : Nat} {a k : Int} (ha : 0 ≤ a) (h : a < ((hf n : Nat) : Int)) (hk : k ∈ sumPl r n a) : 0 ≤ k ∧ k < (n : Int) := by
  cases r with
  | sum => exact sum0_in ha h hk
  | half => exact sum0_in ha h hk
  | lean => exact sum0_in ha h hk
  | guess =>
    rcases List.mem_append.mp (show k ∈ [2 * a] ++ (nearD n a).flatMap (difG n) from hk) with hk | hk
    · rw [List.mem_singleton] at hk
      unfold hf at h
      omega
    · obtain ⟨b, hb, hk⟩ := List.mem_flatMap.mp hk
      exact difG_in (nearD_mem hb).1 hk
theorem difPl_in (r : Rl) {n : Nat} {a k : Int} (ha : 0 ≤ a) (h : a < ((n / 2 : Nat) : Int)) (hk : k ∈ difPl r n a) : 0 ≤ k ∧ k < (n : Int) := by
  have d0 : k ∈ dif0 n a → 0 ≤ k ∧ k < (n : Int) := fun hk => by
    unfold dif0 at hk
    simp only [List.mem_cons, List.not_mem_nil, or_false] at hk
    rcases hk with hk | hk <;> omega
  cases r with
  | sum => exact d0 hk
  | half => exact d0 hk
  | guess => exact difG_in ha hk
  | lean =>
    obtain ⟨b, hb, hk⟩ := List.mem_flatMap.mp (show k ∈ (nearS n a).flatMap (sum0 n) from hk)
    have := nearS_mem hb
    exact sum0_in this.1 this.2.1 hk
theorem spreadL_in (r : Rl) {n i : Nat} {k : Int} (h : i < n) (hk : k ∈ spreadL r n (i : Int)) : 0 ≤ k ∧ k < (n : Int) := by
  unfold spreadL at hk
  split at hk
  · exact sumPl_in r (by omega) (by omega) hk
  · exact difPl_in r (by omega) (by unfold hf at *; omega) hk
theorem firstN_in (r : Rl) {n : Nat} {a k : Int} (ha : 0 ≤ a) (h : a < ((hf n : Nat) : Int)) (hk : k ∈ firstN r n a) : 0 ≤ k ∧ k < (n : Int) := by
  have h2 := h
  unfold hf at h2
  have f0 : k ∈ first0 n a → 0 ≤ k ∧ k < (n : Int) := fun hk => by
    unfold first0 hf at hk
    split at hk
    · simp only [List.mem_cons, List.not_mem_nil, or_false] at hk
      omega
    · simp only [List.mem_cons, List.not_mem_nil, or_false] at hk
      rcases hk with hk | hk <;> omega
  cases r with
  | sum => exact f0 hk
  | half => exact f0 hk
  | lean =>
    have hk : k ∈ firstL n a := hk
    unfold firstL at hk
    split at hk
    · simp only [List.mem_cons, List.not_mem_nil, or_false] at hk
      omega
    · rcases List.mem_append.mp hk with hk | hk
      · have := nearS_mem hk
        unfold hf at this
        omega
      · rw [List.mem_singleton] at hk
        unfold hf at hk
        omega
  | guess =>
    rcases List.mem_append.mp (show k ∈ [a] ++ (nearD n a).map fun k => ((hf n : Nat) : Int) + k from hk) with hk | hk
    · rw [List.mem_singleton] at hk
      omega
    · obtain ⟨b, hb, hk⟩ := List.mem_map.mp hk
      have := nearD_mem hb
      unfold hf at hk
      omega
theorem secondN_in (r : Rl) {n : Nat} {a k : Int} (ha : 0 ≤ a) (h : a < ((n / 2 : Nat) : Int)) (hk : k ∈ secondN r n a) : 0 ≤ k ∧ k < (n : Int) := by
  have hh : a < ((hf n : Nat) : Int) := by unfold hf; omega
  cases r with
  | sum => exact firstN_in .sum ha hh hk
  | half => exact firstN_in .half ha hh hk
  | lean => exact firstN_in .lean ha hh hk
  | guess =>
    have one : k ∈ [((hf n : Nat) : Int) + a] → 0 ≤ k ∧ k < (n : Int) := fun hk => by
      rw [List.mem_singleton] at hk
      unfold hf at hk
      omega
    have hk : k ∈ secondG n a := hk
    unfold secondG at hk
    split at hk
    · rename_i e
      rcases List.mem_append.mp hk with hk | hk
      · rcases List.mem_append.mp hk with hk | hk
        · exact one hk
        · exact firstN_in .guess ha hh hk
      · exact firstN_in .guess (by omega) (by unfold hf; omega) hk
    · rcases List.mem_append.mp hk with hk | hk
      · exact one hk
      · exact firstN_in .guess ha hh hk
theorem backL_in (r : Rl) {n i : Nat} {k : Int} (h : i < n) (hk : k ∈ backL r n (i : Int)) : 0 ≤ k ∧ k < (n : Int) := by
  unfold backL at hk
  split at hk
  · exact secondN_in r (by omega) (by omega) hk
  · exact firstN_in r (by omega) (by unfold hf; omega) hk
/-! ### the places that a place hangs on, that places need -/
abbrev PS := Nat × Nat → Prop
def img (rel : Nat × Nat → Nat × Nat → Prop) (A : PS) : PS := fun q => ∃ p, A p ∧ rel p q
def hgStep (r : Rl) (l : L) (c : Nat × Nat) (A : PS) : PS :=
  let B := if l.isP = true then img (relP (spreadL r c.1) c) A else A
  if l.isR = true then img (relR (spreadL r c.2) c) B else B
def ndStep (r : Rl) (l : L) (c : Nat × Nat) (A : PS) : PS :=
  let B := if l.isR = true then img (relR (backL r c.2) c) A else A
  if l.isP = true then img (relP (backL r c.1) c) B else B
def hgSet (r : Rl) (c : Nat × Nat) (ws : List L) (A : PS) : Nat → PS
  | 0 => A
  | i + 1 => match ws[ws.length - 1 - i]? with
    | some l => hgStep r l (cnr c ws (ws.length - 1 - i)) (hgSet r c ws A i)
    | none => hgSet r c ws A i
def ndSet (r : Rl) (c : Nat × Nat) (ws : List L) (A : PS) : Nat → PS
  | 0 => A
  | k + 1 => match ws[k]? with
    | some l => ndStep r l (cnr c ws k) (ndSet r c ws A k)
    | none => ndSet r c ws A k
def hangM (r : Rl) (c : Nat × Nat) (ws : List L) (A : PS) : PS := hgSet r c ws A ws.length
def needM (r : Rl) (c : Nat × Nat) (ws : List L) (A : PS) : PS := ndSet r c ws A ws.length
/-- inside c -/
def InG (c : Nat × Nat) (A : PS) : Prop := ∀ q, A q → q.1 < c.1 ∧ q.2 < c.2
theorem InG.relR {T : Int → List Int} {c d : Nat × Nat} {A : PS} (h : InG d A) (hc : c.1 ≤ d.1 ∧ c.2 ≤ d.2) (hT : ∀ (i : Nat) (k : Int), i < c.2 → k ∈ T (i : Int) → 0 ≤ k ∧ k < (c.2 : Int)) : InG d (img (relR T c) A) := by
  rintro q ⟨p, hp, ⟨h1, h2, h3, h4⟩ | ⟨_, e⟩⟩
  · have := hT p.2 _ h2 h4
    omega
  · rw [e]; exact h p hp
theorem InG.relP {T : Int → List Int} {c d : Nat × Nat} {A : PS} (h : InG d A) (hc : c.1 ≤ d.1 ∧ c.2 ≤ d.2) (hT : ∀ (i : Nat) (k : Int), i < c.1 → k ∈ T (i : Int) → 0 ≤ k ∧ k < (c.1 : Int)) : InG d (img (relP T c) A) := by
  rintro q ⟨p, hp, ⟨h1, h2, h3, h4⟩ | ⟨_, e⟩⟩
  · have := hT p.1 _ h1 h4
    omega
  · rw [e]; exact h p hp
theorem hg_in {r : Rl} {c : Nat × Nat} {ws : List L} {A : PS} (h : InG c A) : ∀ i, InG c (hgSet r c ws A i)
  | 0 => h
  | i + 1 => by
    have ih := hg_in (r := r) (ws := ws) h i
    unfold hgSet
    split
    · rename_i l _
      have le := cnr_le ws (ws.length - 1 - i) c
      unfold hgStep
      cases l with
      | r => exact InG.relR ih le fun i k => spreadL_in r
      | p => exact InG.relP ih le fun i k => spreadL_in r
      | b => exact InG.relR (InG.relP ih le fun i k => spreadL_in r) le fun i k => spreadL_in r
    · exact ih
theorem nd_in {r : Rl} {c : Nat × Nat} {ws : List L} {A : PS} (h : InG c A) : ∀ i, InG c (ndSet r c ws A i)
  | 0 => h
  | i + 1 => by
    have ih := nd_in (r := r) (ws := ws) h i
    unfold ndSet
    split
    · rename_i l _
      have le := cnr_le ws i c
      unfold ndStep
      cases l with
      | r => exact InG.relR ih le fun i k => backL_in r
      | p => exact InG.relP ih le fun i k => backL_in r
      | b => exact InG.relP (InG.relR ih le fun i k => backL_in r) le fun i k => backL_in r
    · exact ih
end Kp
/-! plain: checks, planes of signs, what a cut row tells -/
namespace Kp
def chkS (l : List Nat) : Int := l.foldl (fun (f : Int) (c : Nat) => (f * 10 + (c : Int) - 32) % 97) 0
theorem chkS_in (l : List Nat) : 0 ≤ chkS l ∧ chkS l < 97 := by
  rcases List.eq_nil_or_concat l with rfl | ⟨a, b, rfl⟩
  · exact ⟨by decide, by decide⟩
  · unfold chkS
    rw [List.concat_eq_append, List.foldl_append]
    exact ⟨Int.emod_nonneg _ (by decide), Int.emod_lt_of_pos _ (by decide)⟩
def chk (l : List Nat) : Nat := (chkS l).toNat
theorem chk_lt (l : List Nat) : chk l < 97 := by
  have := chkS_in l
  unfold chk
  omega
theorem chk_eq (l : List Nat) : chkS l = (chk l : Int) := by
  have := chkS_in l
  unfold chk
  omega
theorem chk_snoc (l : List Nat) (c : Nat) : chkS (l ++ [c]) = (chkS l * 10 + (c : Int) - 32) % 97 := by
  unfold chkS
  rw [List.foldl_append]
  rfl
def chk2 (l : List Nat) : List Nat := [48 + chk l / 10, 48 + chk l % 10]
theorem chk2_dig {l : List Nat} {c : Nat} (h : c ∈ chk2 l) : 48 ≤ c ∧ c < 58 := by
  have := chk_lt l
  unfold chk2 at h
  simp only [List.mem_cons, List.not_mem_nil, or_false] at h
  omega
/-! ### a plane -/
def plS (p : Nat) (n : Int) : List Nat := if n.natAbs / 2 ^ p % 2 = 0 then [48] else if 1 < n.natAbs / 2 ^ p then [49] else if n < 0 then [49, 45] else [49, 43]
def plane (p : Nat) (ns : List Int) : List Nat := ns.flatMap (plS p)
def planeT (p : Nat) (ns : List Int) : List Nat := plane p ns ++ chk2 (plane p ns) ++ [59]
/-- the first i of m planes -/
def bodyT (m : Nat) (ns : List Int) : Nat → List Nat
  | 0 => []
  | i + 1 => bodyT m ns i ++ planeT (m - 1 - i) ns
theorem plS_len {p : Nat} {n : Int} : 1 ≤ (plS p n).length ∧ (plS p n).length ≤ 2 := by
  unfold plS
  split
  · simp
  · split
    · simp
    · split <;> simp
theorem plane_len {p : Nat} : ∀ {ns : List Int}, (plane p ns).length ≤ 2 * ns.length
  | [] => Nat.le_refl 0
  | n :: ns => by
    have h := plane_len (p := p) (ns := ns)
    have h2 := plS_len (p := p) (n := n)
    unfold plane at *
    rw [List.flatMap_cons, List.length_append, List.length_cons]
    omega
theorem planeT_len {p : Nat} {ns : List Int} : (planeT p ns).length ≤ 2 * ns.length + 3 := by
  have := plane_len (p := p) (ns := ns)
  unfold planeT chk2
  simp only [List.length_append, List.length_cons, List.length_nil]
  omega
theorem bodyT_len {m : Nat} {ns : List Int} : ∀ i, (bodyT m ns i).length ≤ i * (2 * ns.length + 3)
  | 0 => by simp [bodyT]
  | i + 1 => by
    have h := bodyT_len (m := m) (ns := ns) i
    have h2 := planeT_len (p := m - 1 - i) (ns := ns)
    unfold bodyT
    rw [List.length_append, Nat.succ_mul]
    omega
theorem bodyT_pre {m : Nat} {ns : List Int} {i : Nat} : ∀ {j : Nat}, i ≤ j → bodyT m ns i <+: bodyT m ns j
  | 0, h => by
    rw [show i = 0 by omega]
    exact List.prefix_rfl
  | j + 1, h => by
    by_cases e : i = j + 1
    · rw [e]
      exact List.prefix_rfl
    · exact List.IsPrefix.trans (bodyT_pre (by omega)) ⟨planeT (m - 1 - j) ns, rfl⟩
/-! ### what stands at a place of a text -/
def StAt (l : List Nat) (i : Nat) (x : List Nat) : Prop := x <+: l.drop i
theorem StAt.head {l x : List Nat} {i c : Nat} (h : StAt l i (c :: x)) : l[i]? = some c ∧ StAt l (i + 1) x := by
  obtain ⟨t, e⟩ := h
  have e1 : (l.drop i)[0]? = some c := by rw [← e]; rfl
  rw [List.getElem?_drop] at e1
  refine ⟨e1, t, ?_⟩
  rw [← List.tail_drop, ← e]
  rfl
theorem StAt.app {l x y : List Nat} {i : Nat} (h : StAt l i (x ++ y)) : StAt l i x ∧ StAt l (i + x.length) y := by
  obtain ⟨t, e⟩ := h
  refine ⟨⟨y ++ t, by rw [← e, List.append_assoc]⟩, t, ?_⟩
  rw [← List.drop_drop, ← e, List.append_assoc, List.drop_left]
theorem StAt.pre {l m x : List Nat} (h : (m ++ x) <+: l) : StAt l m.length x := by
  obtain ⟨t, e⟩ := h
  exact ⟨t, by rw [← e, List.append_assoc, List.drop_left]⟩
theorem StAt.of_pre {l l' x : List Nat} {i : Nat} (h : StAt l i x) (p : l' <+: l) (hi : i + x.length ≤ l'.length) : StAt l' i x := by
  obtain ⟨t, e⟩ := h
  obtain ⟨u, eu⟩ := p
  have e2 : (l.drop i).take x.length = x := by rw [← e, List.take_left]
  rw [← eu, List.drop_append_of_le_length (by omega), List.take_append_of_le_length (by rw [List.length_drop]; omega)] at e2
  exact ⟨(l'.drop i).drop x.length, by
    have := List.take_append_drop x.length (l'.drop i)
    rw [e2] at this
    exact this⟩
theorem get_pre {l l' : List Nat} {i c : Nat} (p : l' <+: l) (h : l'[i]? = some c) : l[i]? = some c := by
  obtain ⟨u, rfl⟩ := p
  have := (List.getElem?_eq_some_iff.mp h).1
  rw [List.getElem?_append_left this]
  exact h
theorem StAt.cut {l x : List Nat} {i : Nat} (h : StAt l i x) : (l.drop i).take x.length = x := by
  obtain ⟨t, e⟩ := h
  rw [← e, List.take_left]
/-! ### levels -/
def amt (q : Nat) (n : Int) : Nat := n.natAbs / 2 ^ q * 2 ^ q
def mns (q : Nat) (n : Int) : Bool := decide (n < 0) && decide (amt q n ≠ 0)
/-- a number read down to the plane q -/
def rdv (q : Nat) (n : Int) : Int := if n < 0 then -(amt q n : Int) else (amt q n : Int)
theorem amt_le (q : Nat) (n : Int) : amt q n ≤ n.natAbs ∧ n.natAbs < amt q n + 2 ^ q := by
  unfold amt
  have h := Nat.div_add_mod n.natAbs (2 ^ q)
  have h2 := Nat.mod_lt n.natAbs (Nat.two_pow_pos q)
  rw [Nat.mul_comm] at h
  omega
theorem rdv_near (q : Nat) (n : Int) : -((2 : Int) ^ q - 1) ≤ rdv q n - n ∧ rdv q n - n ≤ (2 : Int) ^ q - 1 := by
  have h := amt_le q n
  have e : ((2 ^ q : Nat) : Int) = (2 : Int) ^ q := by simp
  unfold rdv
  split <;> omega
theorem rdv_in {q : Nat} {n B : Int} (h : -B ≤ n ∧ n ≤ B) : -B ≤ rdv q n ∧ rdv q n ≤ B := by
  have := amt_le q n
  unfold rdv
  split <;> omega
theorem amt_step (p : Nat) (n : Int) : amt p n = amt (p + 1) n + n.natAbs / 2 ^ p % 2 * 2 ^ p := by
  unfold amt
  have e : n.natAbs / 2 ^ (p + 1) = n.natAbs / 2 ^ p / 2 := by rw [Nat.pow_succ, Nat.div_div_eq_div_mul]
  rw [e, Nat.pow_succ, show n.natAbs / 2 ^ p / 2 * (2 ^ p * 2) = n.natAbs / 2 ^ p / 2 * 2 * 2 ^ p by rw [Nat.mul_comm (2 ^ p) 2, Nat.mul_assoc], ← Nat.add_mul]
  congr 1
  omega
theorem amt_zero {p : Nat} {n : Int} : amt (p + 1) n = 0 ↔ n.natAbs / 2 ^ p ≤ 1 := by
  unfold amt
  rw [Nat.mul_eq_zero, show n.natAbs / 2 ^ (p + 1) = n.natAbs / 2 ^ p / 2 by rw [Nat.pow_succ, Nat.div_div_eq_div_mul]]
  have h2 : 2 ^ (p + 1) ≠ 0 := Nat.ne_of_gt (Nat.two_pow_pos _)
  generalize n.natAbs / 2 ^ p = a
  constructor
  · intro z
    have := z.resolve_right h2
    omega
  · intro z
    exact .inl (by omega)
theorem amt_top {m : Nat} {n : Int} (h : n.natAbs < 2 ^ m) : amt m n = 0 := by
  unfold amt
  rw [Nat.div_eq_of_lt h, Nat.zero_mul]
/-- one number of a plane read: the signs, the amount, the minus -/
inductive PlC (p : Nat) (n : Int) : Prop where
  | zero (h : plS p n = [48]) (a : amt p n = amt (p + 1) n) (b : mns p n = mns (p + 1) n)
  | one (h : plS p n = [49]) (z : amt (p + 1) n ≠ 0) (a : amt p n = amt (p + 1) n + 2 ^ p) (b : mns p n = mns (p + 1) n)
  | sign (c : Nat) (hc : c = 43 ∨ c = 45) (h : plS p n = [49, c]) (z : amt (p + 1) n = 0) (a : amt p n = amt (p + 1) n + 2 ^ p) (b : mns p n = decide (c = 45))
theorem plC (p : Nat) (n : Int) : PlC p n := by
  have st := amt_step p n
  have z := amt_zero (p := p) (n := n)
  by_cases h0 : n.natAbs / 2 ^ p % 2 = 0
  · have a : amt p n = amt (p + 1) n := by rw [st, h0]; omega
    exact .zero (by unfold plS; rw [if_pos h0]) a (by unfold mns; rw [a])
  · have h1 : n.natAbs / 2 ^ p % 2 = 1 := by omega
    have a : amt p n = amt (p + 1) n + 2 ^ p := by rw [st, h1, Nat.one_mul]
    have tp := Nat.two_pow_pos p
    have nz : amt p n ≠ 0 := by omega
    by_cases h2 : 1 < n.natAbs / 2 ^ p
    · have z2 : amt (p + 1) n ≠ 0 := fun e => by have := z.mp e; omega
      exact .one (by unfold plS; rw [if_neg h0, if_pos h2]) z2 a (by unfold mns; rw [decide_eq_true nz, decide_eq_true z2])
    · have z2 : amt (p + 1) n = 0 := z.mpr (by omega)
      by_cases h3 : n < 0
      · exact .sign 45 (.inr rfl) (by unfold plS; rw [if_neg h0, if_neg h2, if_pos h3]) z2 a (by unfold mns; rw [decide_eq_true nz, decide_eq_true h3]; rfl)
      · exact .sign 43 (.inl rfl) (by unfold plS; rw [if_neg h0, if_neg h2, if_neg h3]) z2 a (by unfold mns; rw [decide_eq_false h3]; rfl)
theorem plane_snoc {p j : Nat} {ns : List Int} {n : Int} (h : ns[j]? = some n) : plane p (ns.take (j + 1)) = plane p (ns.take j) ++ plS p n := by
  unfold plane
  rw [List.take_add_one, h, List.flatMap_append]
  simp
theorem plane_pre {p j : Nat} {ns : List Int} : plane p (ns.take j) <+: plane p ns := by
  have e := List.take_append_drop j ns
  refine ⟨plane p (ns.drop j), ?_⟩
  unfold plane
  rw [← List.flatMap_append, e]
/-- where a number's signs stand -/
theorem at_num {m i j : Nat} {ns : List Int} {n : Int} {hd : List Nat} (hi : i < m) (h : ns[j]? = some n) : StAt (hd ++ bodyT m ns m) (hd.length + (bodyT m ns i).length + (plane (m - 1 - i) (ns.take j)).length) (plS (m - 1 - i) n) := by
  have h1 : bodyT m ns (i + 1) <+: bodyT m ns m := bodyT_pre hi
  have e : hd.length + (bodyT m ns i).length + (plane (m - 1 - i) (ns.take j)).length = (hd ++ bodyT m ns i ++ plane (m - 1 - i) (ns.take j)).length := by rw [List.length_append, List.length_append]
  rw [e]
  refine StAt.pre ?_
  obtain ⟨t1, e1⟩ := h1
  obtain ⟨t2, e2⟩ := plane_pre (p := m - 1 - i) (j := j + 1) (ns := ns)
  rw [plane_snoc h] at e2
  refine ⟨t2 ++ (chk2 (plane (m - 1 - i) ns) ++ [59]) ++ t1, ?_⟩
  rw [← e1, show bodyT m ns (i + 1) = bodyT m ns i ++ planeT (m - 1 - i) ns from rfl]
  unfold planeT
  rw [← e2]
  simp only [List.append_assoc]
/-- where a plane and its check stand -/
theorem at_plane {m i : Nat} {ns : List Int} {hd : List Nat} (hi : i < m) : StAt (hd ++ bodyT m ns m) (hd.length + (bodyT m ns i).length) (planeT (m - 1 - i) ns) := by
  have h1 : bodyT m ns (i + 1) <+: bodyT m ns m := bodyT_pre hi
  have e : hd.length + (bodyT m ns i).length = (hd ++ bodyT m ns i).length := by rw [List.length_append]
  rw [e]
  refine StAt.pre ?_
  obtain ⟨t1, e1⟩ := h1
  refine ⟨t1, ?_⟩
  rw [← e1, show bodyT m ns (i + 1) = bodyT m ns i ++ planeT (m - 1 - i) ns from rfl]
  simp only [List.append_assoc]
theorem cut_pre {hd body : List Nat} {k : Nat} : (hd ++ body.take k) <+: (hd ++ body) := ⟨body.drop k, by rw [List.append_assoc, List.take_append_drop]⟩
end Kp
/-! checks, heads, planes: texts as lists of signs -/
namespace Kp
open PySem PySem.Spec L2 TL
abbrev T (l : List Nat) : Str := ⟨l.toArray⟩
theorem T_add (a b : List Nat) : T a ++ T b = T (a ++ b) := by
  show Str.append _ _ = _
  unfold Str.append
  simp [T]
theorem T_len (a : List Nat) : (T a).length = a.length := by
  show (T a).cps.size = _
  simp [T]
theorem T_num (n : Nat) : Str.ofString (toString ((n : Nat) : Int)) = T (numL n) := ext_tl (tl_num n)
theorem T_eq {a b : List Nat} : (V.str (T a) = V.str (T b)) = (a = b) := by
  refine propext ⟨fun e => ?_, fun e => by rw [e]⟩
  injection e with e
  have := congrArg tl e
  exact this
theorem dig {n : Nat} (h : n < 10) : numL n = [48 + n] := numL_lt h
theorem log_small {n : Nat} (h : n < 1000000) : (n : Int).natAbs.log2 < 1920 := by
  rw [show ((n : Int)).natAbs = n from rfl]
  by_cases z : n = 0
  · subst z
    decide
  · exact (Nat.log2_lt z).mpr (Nat.lt_of_lt_of_le h (by decide +kernel))
theorem wT {l : List Nat} : Walk (Its (T l)) l.length (fun _ => True) (fun i H v H' => H' = H ∧ ∃ c, l[i]? = some c ∧ v = .str ⟨#[c]⟩) := by
  have w := walk_str (z := T l)
  rw [show (T l).cps.size = l.length by simp [T]] at w
  exact w.mono (fun _ h => h) fun i H x H' hi _ ⟨e, c, hc, ex⟩ => ⟨e, c, by rw [← hc]; simp [T], ex⟩
theorem t_snoc {α : Type} {l : List α} {i : Nat} {c : α} (h : l[i]? = some c) : l.take (i + 1) = l.take i ++ [c] := by
  rw [List.take_succ, h]
  rfl
def p_check_of : Pm := fun vs H Q => ∃ l : List Nat, vs = [.str (T l)] ∧ Q (.str (T (chk2 l))) H
section
variable {P : Program} {w : World} {K : PySem.W.Frag} {mg : Str → Option Value} {base : Heap}
theorem ok_check_of (S : TX K mg) : OkF P w K mg base 1 (He.ga K "check_of") (p_check_of) := by
  refine okF (F_check_of S) sc_check_of (by tm_at "len") (fun _ _ _ _ _ _ us hl => match us, hl with | [_], _ => rfl) (fun cdv A outer s H vs Q E hr h => ?_)
  obtain ⟨l, rfl, q⟩ := h
  refine ⟨_, (pss_cons (ps_set (i := 1) sc_check_of.nd rfl (Or.inl rfl) pe_int)
    (pss_cons (ps_for PassesOwn.never rfl (pi_str (pv 0)) (pg_name (i := 2) sc_check_of.nd rfl (Or.inl rfl)) (pss_one (ps_set (i := 1) sc_check_of.nd rfl (Or.inl rfl) (pe_op op_mod (pe_op op_sub (pe_op op_add (pe_op op_mul (pv 1) pe_int) (pe_callB call_ord rfl (fr_ord S) bt_ord (pa_cons (pv 2) pa_nil))) pe_int) pe_int))))
    (pss_one (ps_ret (pe_op op_add_str (pe_callTy call_str_int rfl (fr_str S) bt_str (pa_cons (pe_op op_fdiv (pv 1) pe_int) pa_nil)) (pe_callTy call_str_int rfl (fr_str S) bt_str (pa_cons (pe_op op_mod (pv 1) pe_int) pa_nil))))))), ?_⟩
  tm_at "go"
  refine forIt (wT (l := l)) (fun i σ H' => H' = H ∧ ∃ v, σ = [some (.str (T l)), some (.int (chkS (l.take i))), v]) ⟨rfl, none, rfl⟩ (fun _ _ _ _ _ => trivial) ?_ ?_
  · rintro i x σ H2 H3 hi ⟨rfl, v, rfl⟩ ⟨rfl, c, hc, rfl⟩
    tm_at "go"
    refine gI (Or.inr ⟨by decide, by decide⟩) ?_
    tm_at "go"
    refine ⟨_, rfl, rfl, ?_⟩
    tm_at "go"
    refine gI (by decide) ?_
    tm_at "go"
    refine ⟨rfl, some (.str ⟨#[c]⟩), ?_⟩
    rw [t_snoc hc, chk_snoc]
    rfl
  · rintro σ H2 ⟨rfl, v, rfl⟩
    rw [List.take_length, chk_eq]
    have := chk_lt l
    tm_at "go"
    refine gI ⟨by decide, by decide⟩ ?_
    tm_at "go"
    rw [show ((chk l : Int) / 10) = ((chk l / 10 : Nat) : Int) from rfl]
    refine ⟨_, rfl, log_small (by omega), ?_⟩
    tm_at "go"
    refine gI (by decide) ?_
    tm_at "go"
    rw [show ((chk l : Int) % 10) = ((chk l % 10 : Nat) : Int) from rfl]
    refine ⟨_, rfl, log_small (by omega), ?_⟩
    rw [T_num, T_num, dig (by omega), dig (by omega)]
    refine ⟨_, _, rfl, rfl, by rw [T_len, T_len]; show 2 ≤ sizeLine; decide, ?_⟩
    rw [T_add]
    exact q
theorem gBits {to : TE} {σ : L2.St} {H : Hp} {Q : VK} (h : to σ H fun x H1 => ∃ i, x = .int i ∧ Q (.int (Builtin.Int.intBits i : Nat)) H1) : tBits to σ H Q := h
/-- a slot told anew or not -/
theorem gIfN {d : Bool} {a v : V} {i : Nat} {n : L2.St → Hp → Prop} {r : VK} {b c : L2.St → Hp → Prop} {σ : L2.St} {H : Hp} (e : σ[i]? = some (some v)) (h : n (σ.set i (some (if d = true then a else v))) H) : if d = true then tAsg (tC a) (gName i) ⟨n, r, b, c⟩ σ H else tNext ⟨n, r, b, c⟩ σ H := by
  cases d with
  | true => exact gTrue h
  | false =>
    refine gFalse ?_
    have e2 : σ.set i (some v) = σ := by
      obtain ⟨hi, hv⟩ := List.getElem?_eq_some_iff.mp e
      rw [← hv, List.set_getElem_self]
    rw [if_neg Bool.false_ne_true, e2] at h
    exact h
theorem bits_le {m : Nat} {x : Int} (h : x.natAbs < 2 ^ m) : Builtin.Int.intBits x ≤ m := by
  unfold Builtin.Int.intBits
  split
  · omega
  · rename_i z
    have : x.natAbs ≠ 0 := fun e => z (by rw [Int.natAbs_eq_zero.mp e]; rfl)
    exact (Nat.log2_lt this).mpr h
theorem bits_lt (x : Int) : x.natAbs < 2 ^ Builtin.Int.intBits x := by
  unfold Builtin.Int.intBits
  split
  · rename_i z
    rw [show x = 0 from eq_of_beq z]
    decide
  · exact Nat.lt_log2_self
def p_planes_of (K : PySem.W.Frag) : Pm := fun vs H Q => ∃ (p a : Addr) (h w : Nat) (r : Rl) (ws : List L) (g : G2), vs = [.ref p, .ref a] ∧ PlanAt K H p h w r ws ∧ FieldAt K H a h w g ∧ Bd 1000000000 h w g ∧
  ∀ (m : Nat) H', Same H H' → m ≤ 30 → (∀ y x, y < h → x < w → (g y x).natAbs < 2 ^ m) → Q (.int (m : Nat)) H'
theorem abs_if (i : Int) : (if i < 0 then -i else i) = (i.natAbs : Int) := by split <;> omega
theorem ok_planes_of (S : TX K mg) : OkF P w K mg base 9 (He.ga K "planes_of") (p_planes_of K) := by
  refine okF (F_planes_of S) sc_planes_of (by tm_at "len") (fun _ _ _ _ _ _ us hl => match us, hl with | [_, _], _ => rfl) (fun cdv A outer s H vs Q E hr h => ?_)
  obtain ⟨p, a, h, n, r, ws, g, rfl, Pl, F, b, q⟩ := h
  refine ⟨_, (pss_cons (ps_expr (pe_f (ok_need_numbers S) (hr.mono (by decide)) rfl (glo_need_numbers S) (pa_cons (pv 0) (pa_cons (pv 1) pa_nil))))
    (pss_one (ps_ret (pe_bits (pe_callB (kMax (K := K) rfl rfl) rfl (fr_max S) bt_max (pa_cons (pe_lc (own := [("number", 2)]) (g := gName 2) (tt := tYes) rfl sc_planes_of.nd (kList (K := K) rfl (pe_mt0 (pv 1) (cls_Field S) (me_Field_flat S) (ok_Field_flat S) (hr.mono (by decide)))) (blkOk_by (own := [("number", 2)]) (N := ["plan", "numbers", "number"]) (sc := defScope s_planes_of) (by decide +kernel)) (fun _ _ _ _ _ => (pg_name (i := 2) sc_planes_of.nd rfl (Or.inl rfl))) (fun _ _ _ _ _ => pts_nil) (fun _ _ _ _ _ => (pe_callB call_abs rfl (fr_abs S) bt_abs (pa_cons (pv 2) pa_nil)))) pa_nil)))))), ?_⟩
  have F0 := F
  obtain ⟨⟨dx, la, ra, hp, R⟩, z, _⟩ := F0
  tm_at "go"
  refine ⟨p, a, h, n, r, ws, g, rfl, Pl, F, b, fun H1 s1 => ?_⟩
  tm_at "go"
  refine gBits ?_
  tm_at "go"
  refine gMeE (s1 _ _ hp) rfl ?_
  tm_at "go"
  refine ⟨a, h, n, g, rfl, F.same s1, fun D H2 hD s2 eD => ?_⟩
  refine gL1 (SqL.of eD) ?_
  intro B hB
  have BD : B ≠ D := fun e => by rw [e, eD] at hB; cases hB
  have hw := z.hw
  refine lcIt (wTab (m := h * n) (f := fun k => .int (g (k / n) (k % n)))) (fun i H' => Same H2 H' ∧ H' B = some (.lst (tab i fun k => .int ((g (k / n) (k % n)).natAbs : Int)))) ⟨Same.new hB, upd_same⟩ (fun i H' _ z => SqL.of (z.1 _ _ eD)) ?_ ?_
  · rintro i x H3 H4 hi ⟨s4, e4⟩ ⟨rfl, rfl⟩
    tm_at "go"
    refine ⟨rfl, ?_⟩
    tm_at "go"
    refine ⟨_, rfl, _, e4, by rw [tab_len]; exact line_lt (by omega), s4.mut hB, ?_⟩
    rw [upd_same, abs_if, tab_snoc (f := fun k => .int ((g (k / n) (k % n)).natAbs : Int))]
  · rintro H3 ⟨s3, e3⟩
    have n0 : 0 < n := z.w1
    have e5 : (tab (h * n) fun k => V.int ((g (k / n) (k % n)).natAbs : Int)) = ((List.range (h * n)).map fun k => ((g (k / n) (k % n)).natAbs : Int)).map V.int := by unfold tab; rw [List.map_map]; rfl
    have h0 : 0 < h * n := Nat.mul_pos z.h1 n0
    tm_at "go"
    refine ⟨B, _, rfl, by rw [← e5]; exact SqL.of e3, by rw [List.length_map, List.length_range]; exact h0, fun mx hm hmax => ?_⟩
    refine ⟨_, rfl, q (Builtin.Int.intBits mx) H3 ((s1.trans s2).trans s3) (bits_le ?_) fun y x hy hx => ?_⟩
    · obtain ⟨k, hk, rfl⟩ := List.mem_map.mp hm
      rw [List.mem_range] at hk
      have := b (k / n) (k % n) (Nat.div_lt_of_lt_mul (by rw [Nat.mul_comm]; exact hk)) (Nat.mod_lt _ n0)
      have e30 : (2 : Nat) ^ 30 = 1073741824 := by decide
      omega
    · have l1 := row_le (n := n) hy
      have hk : y * n + x < h * n := by omega
      have e6 : (y * n + x) / n = y := by rw [Nat.add_comm, Nat.add_mul_div_right _ _ n0, Nat.div_eq_of_lt hx, Nat.zero_add]
      have e7 : (y * n + x) % n = x := by rw [Nat.add_comm, Nat.add_mul_mod_self_right, Nat.mod_eq_of_lt hx]
      have le := hmax _ (List.mem_map.mpr ⟨y * n + x, List.mem_range.mpr hk, rfl⟩)
      rw [e6, e7] at le
      have := bits_lt mx
      omega
/-! ### f-strings, by lists of signs -/
section
variable {te : TE} {ts : List TE} {σ : L2.St} {H : Hp} {Q : Str → Hp → Prop} {l k : List Nat} {z : Str}
theorem gJc (hl : (l ++ tl z).length ≤ 1000) (h : tJs ts (T (l ++ tl z)) σ H Q) : tJs (tC (.str z) :: ts) (T l) σ H Q := by
  refine ⟨z, rfl, ?_, ?_⟩
  · have e : T l ++ z = T (l ++ tl z) := by rw [← T_add, show T (tl z) = z from mk_tl z]
    rw [e, T_len]
    exact line_le (by omega)
  · rw [← T_add] at h
    rw [show T (tl z) = z from mk_tl z] at h
    exact h
theorem gJn {acc : Str} (h : Q acc H) : tJs [] acc σ H Q := h
theorem gJ0 {acc : Str} (h : te σ H fun x H1 => (∃ y : Str, x = .str y ∧ y.length ≤ sizeLine ∧ ∃ y' : Str, V.str y = .str y' ∧ (acc ++ y').length ≤ sizeLine ∧ tJs ts (acc ++ y') σ H1 Q) ∨
    ∃ i : Int, x = .int i ∧ i.natAbs.log2 < 1920 ∧ ∃ y' : Str, V.str (toString i) = .str y' ∧ (acc ++ y').length ≤ sizeLine ∧ tJs ts (acc ++ y') σ H1 Q) : tJs (tFmt te :: ts) acc σ H Q := h
theorem gFs (hl : (l ++ tl z).length ≤ 1000) (h : tJs ts (T (l ++ tl z)) σ H Q) : (∃ y : Str, V.str z = .str y ∧ y.length ≤ sizeLine ∧ ∃ y' : Str, V.str y = .str y' ∧ (T l ++ y').length ≤ sizeLine ∧ tJs ts (T l ++ y') σ H Q) ∨
    ∃ i : Int, V.str z = .int i ∧ i.natAbs.log2 < 1920 ∧ ∃ y' : Str, V.str (toString i) = .str y' ∧ (T l ++ y').length ≤ sizeLine ∧ tJs ts (T l ++ y') σ H Q := by
  have e : T l ++ z = T (l ++ tl z) := by rw [← T_add, show T (tl z) = z from mk_tl z]
  rw [List.length_append] at hl
  refine .inl ⟨z, rfl, by rw [← mk_tl z, T_len]; exact line_le (by omega), z, rfl, by rw [e, T_len, List.length_append]; exact line_le (by omega), by rw [e]; exact h⟩
theorem gFi {n : Nat} (hn : n < 1000000) (hl : (l ++ numL n).length ≤ 1000) (h : tJs ts (T (l ++ numL n)) σ H Q) : (∃ y : Str, V.int (n : Nat) = .str y ∧ y.length ≤ sizeLine ∧ ∃ y' : Str, V.str y = .str y' ∧ (T l ++ y').length ≤ sizeLine ∧ tJs ts (T l ++ y') σ H Q) ∨
    ∃ i : Int, V.int (n : Nat) = .int i ∧ i.natAbs.log2 < 1920 ∧ ∃ y' : Str, V.str (toString i) = .str y' ∧ (T l ++ y').length ≤ sizeLine ∧ tJs ts (T l ++ y') σ H Q := by
  have e : (toString ((n : Nat) : Int) : Str) = T (numL n) := T_num n
  refine .inr ⟨_, rfl, log_small hn, _, rfl, ?_, ?_⟩
  · rw [e, T_add, T_len]; exact line_le (by omega)
  · rw [e, T_add]; exact h
end
def wayC (ws : List L) : List Nat := if ws = [] then [45] else ws.map L.code
/-- the head's signs ahead of its check -/
def preT (h w : Nat) (r : Rl) (ws : List L) (m : Nat) : List Nat := tl "halved " ++ numL h ++ [32] ++ numL w ++ [32] ++ tl r.word ++ [32] ++ wayC ws ++ [32] ++ numL m ++ [32]
def headT (h w : Nat) (r : Rl) (ws : List L) (m : Nat) : List Nat := preT h w r ws m ++ chk2 (preT h w r ws m) ++ [58]
def p_head_of (K : PySem.W.Frag) : Pm := fun vs H Q => ∃ (p : Addr) (h w : Nat) (r : Rl) (ws : List L) (m : Nat), vs = [.ref p, .int (m : Nat)] ∧ PlanAt K H p h w r ws ∧ m ≤ 30 ∧ Q (.str (T (headT h w r ws m))) H
theorem wayC_eq (ws : List L) : (if decide (V.str (wayS ws) = V.str "") = true then V.str "-" else V.str (wayS ws)) = V.str (T (wayC ws)) := by
  cases ws with
  | nil => rfl
  | cons l ls =>
    have ne : V.str (wayS (l :: ls)) ≠ V.str "" := fun e => by
      injection e with e
      have := congrArg Str.length e
      rw [way_len] at this
      cases this
    rw [decide_eq_false ne, if_neg Bool.false_ne_true]
    rfl
theorem numL_le2 {n : Nat} (h : n < 100) : (numL n).length ≤ 2 := numL_len (by decide) h
theorem wayC_le {ws : List L} (h : ws.length ≤ 126) : (wayC ws).length ≤ 126 := by
  unfold wayC
  split
  · decide
  · rw [List.length_map]; exact h
theorem word_le (r : Rl) : (tl r.word).length ≤ 5 := by cases r <;> decide
theorem preT_le {h w : Nat} {r : Rl} {ws : List L} {m : Nat} (h1 : h ≤ 64) (h2 : w ≤ 64) (h3 : m ≤ 30) (h4 : ws.length ≤ 126) : (preT h w r ws m).length ≤ 200 := by
  have a := numL_le2 (n := h) (by omega)
  have b := numL_le2 (n := w) (by omega)
  have c := numL_le2 (n := m) (by omega)
  have d := wayC_le h4
  have e := word_le r
  have f : (tl "halved ").length = 7 := by decide
  unfold preT
  simp only [List.length_append, List.length_singleton]
  omega
theorem ok_head_of (S : TX K mg) : OkF P w K mg base 9 (He.ga K "head_of") (p_head_of K) := by
  refine okF (F_head_of S) sc_head_of (by tm_at "len") (fun _ _ _ _ _ _ us hl => match us, hl with | [_, _], _ => rfl) (fun cdv A outer s H vs Q E hr h => ?_)
  obtain ⟨tMOST_PLANES, gMOST_PLANES⟩ := int_MOST_PLANES S
  obtain ⟨p, h, n, r, ws, m, rfl, Pl, hm, q⟩ := h
  refine ⟨_, (pss_cons (ps_if (pt_not (pt_val (pe_f (ok_is_whole S) (hr.mono (by decide)) rfl (glo_is_whole S) (pa_cons (pv 1) (pa_cons pe_int (pa_cons (pe_glob (v := .int 30) rfl gMOST_PLANES ⟨_, rfl⟩) pa_nil)))))) (pss_one ps_never) pss_nil)
    (pss_cons (ps_set (i := 2) sc_head_of.nd rfl (Or.inl rfl) (pe_mt0 (pv 0) (cls_Plan S) (me_Plan_way S) (ok_Plan_way S) (hr.mono (by decide))))
    (pss_cons (ps_if (pt_cmpR op_eq (pv 2) pe_str (nomark _)) (pss_one (ps_set (i := 2) sc_head_of.nd rfl (Or.inl rfl) pe_str)) pss_nil)
    (pss_cons (ps_set (i := 3) sc_head_of.nd rfl (Or.inl rfl) (pe_joined (PJ.cons pe_str (PJ.cons (pe_fmt (pe_mt0 (pv 0) (cls_Plan S) (me_Plan_height S) (ok_Plan_height S) (hr.mono (by decide)))) (PJ.cons pe_str (PJ.cons (pe_fmt (pe_mt0 (pv 0) (cls_Plan S) (me_Plan_width S) (ok_Plan_width S) (hr.mono (by decide)))) (PJ.cons pe_str (PJ.cons (pe_fmt (pe_d0 (k := 6) (m := "word") (pe_mt0 (pv 0) (cls_Plan S) (me_Plan_rule S) (ok_Plan_rule S) (hr.mono (by decide))) (hr.mono (by decide)))) (PJ.cons pe_str (PJ.cons (pe_fmt (pv 2)) (PJ.cons pe_str (PJ.cons (pe_fmt (pv 1)) (PJ.cons pe_str PJ.nil)))))))))))))
    (pss_one (ps_ret (pe_op op_add_str (pe_op op_add_str (pv 3) (pe_f (ok_check_of S) (hr.mono (by decide)) rfl (glo_check_of S) (pa_cons (pv 3) pa_nil))) pe_str))))))), ?_⟩
  have Pl0 := Pl
  obtain ⟨⟨dx, ru, ca, ta, hp, hr1, c⟩, z, ok⟩ := Pl0
  have wl := Pl.wlen
  have zh := z.h2
  have zw := z.w2
  have a1 := numL_le2 (n := h) (by omega)
  have a2 := numL_le2 (n := n) (by omega)
  have a3 := numL_le2 (n := m) (by omega)
  have a4 := wayC_le wl
  have a5 := word_le r
  have a6 : (tl "halved ").length = 7 := by decide
  have a7 : (tl " ").length = 1 := by decide
  have a8 : tl " " = [32] := by decide
  have a9 : tl (T (wayC ws)) = wayC ws := rfl
  tm_at "go"
  refine ⟨m, 0, 30, rfl, by omega, by omega, ?_⟩
  tm_at "go"
  refine gMeE hp rfl ?_
  tm_at "go"
  refine ⟨p, h, n, r, ws, rfl, Pl, ?_⟩
  tm_at "go"
  dsimp only
  refine gIfN rfl ?_
  rw [wayC_eq]
  refine gSeq ?_
  refine gAsg ?_
  show tJs _ (T []) _ _ _
  refine gJc (by simp only [List.length_append, List.length_nil]; omega) ?_
  refine gJ0 ?_
  tm_at "go"
  refine gMeE hp rfl ?_
  tm_at "go"
  refine ⟨p, h, n, r, ws, rfl, Pl, gFi (by omega) (by simp only [List.length_append, List.length_nil]; omega) ?_⟩
  refine gJc (by simp only [List.length_append, List.length_nil]; omega) ?_
  refine gJ0 ?_
  tm_at "go"
  refine gMeE hp rfl ?_
  tm_at "go"
  refine ⟨p, h, n, r, ws, rfl, Pl, gFi (by omega) (by simp only [List.length_append, List.length_nil]; omega) ?_⟩
  refine gJc (by simp only [List.length_append, List.length_nil]; omega) ?_
  refine gJ0 ?_
  tm_at "go"
  refine gMeE hp rfl ?_
  tm_at "go"
  refine ⟨p, h, n, r, ws, rfl, Pl, fun ru2 hr2 => ?_⟩
  obtain ⟨C, dx2, fw, e, cl, me, o⟩ := dyn_word S (P := P) (w := w) (base := base) hr2
  refine ⟨ru2, C, dx2, [], fw, _, rfl, e, rfl, cl, me, o, ?_⟩
  tm_at "go"
  refine ⟨_, rfl, gFs (by simp only [List.length_append, List.length_nil]; omega) ?_⟩
  refine gJc (by simp only [List.length_append, List.length_nil]; omega) ?_
  refine gJ0 ?_
  tm_at "go"
  refine gFs (by rw [a9]; simp only [List.length_append, List.length_nil]; omega) ?_
  refine gJc (by rw [a9]; simp only [List.length_append, List.length_nil]; omega) ?_
  refine gJ0 ?_
  tm_at "go"
  refine gFi (by omega) (by rw [a9]; simp only [List.length_append, List.length_nil]; omega) ?_
  refine gJc (by rw [a9]; simp only [List.length_append, List.length_nil]; omega) ?_
  rw [a9, a8, List.nil_append]
  refine gJn ?_
  rw [show (tl "halved " ++ numL h ++ [32] ++ numL n ++ [32] ++ tl r.word ++ [32] ++ wayC ws ++ [32] ++ numL m ++ [32]) = preT h n r ws m from rfl]
  have le := preT_le (r := r) zh zw hm wl
  have fin := q
  unfold headT at fin
  generalize preT h n r ws m = l at *
  tm_at "go"
  refine ⟨l, rfl, ?_⟩
  refine ⟨_, _, rfl, rfl, by rw [T_len, T_len]; exact line_le (by unfold chk2; simp only [List.length_cons, List.length_nil]; omega), ?_⟩
  rw [T_add]
  tm_at "go"
  refine ⟨_, _, rfl, rfl, by rw [T_len, List.length_append, show ((":" : Str)).length = 1 from rfl]; exact line_le (by unfold chk2; simp only [List.length_cons, List.length_nil]; omega), ?_⟩
  rw [show (":" : Str) = T [58] from rfl, T_add]
  exact fin
theorem join0 : ∀ l : List (List Nat), joinL [] l = l.flatten
  | [] => rfl
  | [p] => by simp [joinL]
  | p :: q :: r => by
    have ih := join0 (q :: r)
    rw [List.flatten_cons, ← ih]
    simp [joinL]
theorem join_T (l : List (List Nat)) : Txt.join (T []) (l.map T) = T l.flatten := by
  rw [join_eq]
  refine ext_tl ?_
  rw [tl_join, List.map_map, show (tl ∘ T) = id from rfl, List.map_id]
  exact join0 l
theorem and1 {n : Nat} : Builtin.bitAnd (n : Int) 1 = ((n % 2 : Nat) : Int) := by
  have h := Bits.bitAnd_mask (x := (n : Int)) 1 (by omega)
  rw [show ((2 : Int) ^ 1 - 1) = 1 from rfl] at h
  rw [h]
  omega
theorem shr_n {a p : Nat} : (a : Int) / 2 ^ ((p : Int)).toNat = ((a / 2 ^ p : Nat) : Int) := by
  rw [Int.toNat_natCast, Int.natCast_ediv]
  simp
def p_plane_text : Pm := fun vs H Q => ∃ (a : Addr) (ns : List Int) (p : Nat), vs = [.ref a, .int (p : Nat)] ∧ H a = some (.lst (ns.map V.int)) ∧ ns.length ≤ 512 ∧ ∀ H', Same H H' → Q (.str (T (plane p ns))) H'
theorem ok_plane_text (S : TX K mg) : OkF P w K mg base 1 (He.ga K "plane_text") (p_plane_text) := by
  refine okF (F_plane_text S) sc_plane_text (by tm_at "len") (fun _ _ _ _ _ _ us hl => match us, hl with | [_, _], _ => rfl) (fun cdv A outer s H vs Q E hr h => ?_)
  obtain ⟨a, ns, p, rfl, ha, hn, q⟩ := h
  refine ⟨_, (pss_cons (ps_set (i := 2) sc_plane_text.nd rfl (Or.inl rfl) (pe_lst pa_nil))
    (pss_cons (ps_for PassesOwn.never rfl (kList (K := K) rfl (pv 0)) (pg_name (i := 3) sc_plane_text.nd rfl (Or.inl rfl)) (pss_cons (ps_set (i := 4) sc_plane_text.nd rfl (Or.inl rfl) (pe_op op_shr (pe_callB call_abs rfl (fr_abs S) bt_abs (pa_cons (pv 3) pa_nil)) (pv 1)))
    (pss_one (ps_if (pt_cmpR op_eq (pe_op op_and (pv 4) pe_int) pe_int (nomark _)) (pss_one (ps_expr (kBM (K := K) rfl PySem.F.plainAttrs_list PySem.F.slot_list_append PySem.F.type_list_append mt_append (pv 2) (pa_cons pe_str pa_nil)))) (pss_one (ps_if (pt_cmpR op_gt (pv 4) pe_int (nomark _)) (pss_one (ps_expr (kBM (K := K) rfl PySem.F.plainAttrs_list PySem.F.slot_list_append PySem.F.type_list_append mt_append (pv 2) (pa_cons pe_str pa_nil)))) (pss_one (ps_if (pt_cmpR op_lt (pv 3) pe_int (nomark _)) (pss_one (ps_expr (kBM (K := K) rfl PySem.F.plainAttrs_list PySem.F.slot_list_append PySem.F.type_list_append mt_append (pv 2) (pa_cons pe_str pa_nil)))) (pss_one (ps_expr (kBM (K := K) rfl PySem.F.plainAttrs_list PySem.F.slot_list_append PySem.F.type_list_append mt_append (pv 2) (pa_cons pe_str pa_nil))))))))))))
    (pss_one (ps_ret (pe_join pe_str (pv 2)))))), ?_⟩
  tm_at "go"
  refine ⟨Nat.zero_le _, fun D hD => ?_⟩
  tm_at "go"
  have s0 : Same H (upd H D (.lst [])) := Same.new hD
  refine gL1 (SqL.of (s0 _ _ ha)) ?_
  have e0 : ns.map V.int = tab ns.length fun i => V.int (ns.getD i 0) := tab_map
  rw [e0] at ha
  refine forIt (wTab (m := ns.length) (f := fun i => .int (ns.getD i 0))) (fun i σ H' => Same H H' ∧ H' D = some (.lst (((ns.take i).map fun n => T (plS p n)).map V.str)) ∧ ∃ v1 v2, σ = [some (.ref a), some (.int (p : Nat)), some (.ref D), v1, v2])
    ⟨s0, upd_same, none, none, rfl⟩ (fun i σ H' _ z => SqL.of (z.1 _ _ ha)) ?_ ?_
  · rintro i x σ H1 H2 hi ⟨s1, e1, v1, v2, rfl⟩ ⟨rfl, rfl⟩
    have hn0 : ns[i]? = some ns[i] := List.getElem?_eq_getElem hi
    rw [show ns.getD i 0 = ns[i] by rw [List.getD_eq_getElem?_getD, hn0]; rfl]
    rw [t_snoc hn0, List.map_append, List.map_append]
    generalize ns[i] = n at *
    have ll : ((((ns.take i).map fun n => T (plS p n)).map V.str)).length < sizeLine := by rw [List.length_map, List.length_map, List.length_take]; exact line_lt (by omega)
    have fin : ∀ {z : Str}, T (plS p n) = z → Same H (upd H2 D (.lst ((((ns.take i).map fun n => T (plS p n)).map V.str) ++ [.str z]))) ∧ upd H2 D (.lst ((((ns.take i).map fun n => T (plS p n)).map V.str) ++ [.str z])) D = some (.lst ((((ns.take i).map fun n => T (plS p n)).map V.str) ++ ([n].map fun n => T (plS p n)).map V.str)) := fun e => by
      refine ⟨s1.mut hD, ?_⟩
      rw [upd_same, ← e]
      rfl
    generalize (((ns.take i).map fun n => T (plS p n)).map V.str) = acc at *
    tm_at "go"
    refine ⟨_, rfl, ?_⟩
    tm_at "go"
    refine gI (by omega) ?_
    rw [abs_if, shr_n]
    tm_at "go"
    rw [and1]
    tm_at "go"
    by_cases h0 : n.natAbs / 2 ^ p % 2 = 0
    · refine gIfT (decide_eq_true (by rw [h0]; rfl)) ?_
      tm_at "go"
      refine ⟨.inl ⟨rfl, _, SqL.of e1⟩, ?_⟩
      tm_at "go"
      obtain ⟨f1, f2⟩ := fin (z := "0") (by unfold plS; rw [if_pos h0]; rfl)
      exact ⟨D, _, _, rfl, rfl, e1, ll, f1, f2, _, _, rfl⟩
    · refine gIfF (decide_eq_false (fun e => h0 (by injection e with e; omega))) ?_
      tm_at "go"
      by_cases h1 : 1 < n.natAbs / 2 ^ p
      · refine gIfT (decide_eq_true (by omega)) ?_
        tm_at "go"
        refine ⟨.inl ⟨rfl, _, SqL.of e1⟩, ?_⟩
        tm_at "go"
        obtain ⟨f1, f2⟩ := fin (z := "1") (by unfold plS; rw [if_neg h0, if_pos h1]; rfl)
        exact ⟨D, _, _, rfl, rfl, e1, ll, f1, f2, _, _, rfl⟩
      · refine gIfF (decide_eq_false (by omega)) ?_
        tm_at "go"
        by_cases h2 : n < 0
        · refine gIfT (decide_eq_true h2) ?_
          tm_at "go"
          refine ⟨.inl ⟨rfl, _, SqL.of e1⟩, ?_⟩
          tm_at "go"
          obtain ⟨f1, f2⟩ := fin (z := "1-") (by unfold plS; rw [if_neg h0, if_neg h1, if_pos h2]; rfl)
          exact ⟨D, _, _, rfl, rfl, e1, ll, f1, f2, _, _, rfl⟩
        · refine gIfF (decide_eq_false h2) ?_
          tm_at "go"
          refine ⟨.inl ⟨rfl, _, SqL.of e1⟩, ?_⟩
          tm_at "go"
          obtain ⟨f1, f2⟩ := fin (z := "1+") (by unfold plS; rw [if_neg h0, if_neg h1, if_neg h2]; rfl)
          exact ⟨D, _, _, rfl, rfl, e1, ll, f1, f2, _, _, rfl⟩
  · rintro σ H1 ⟨s1, e1, v1, v2, rfl⟩
    rw [List.take_length] at e1
    tm_at "go"
    refine ⟨⟨_, rfl⟩, ?_⟩
    tm_at "go"
    refine ⟨_, D, _, rfl, rfl, .inl (SqL.of e1), ?_, ?_⟩
    · rw [List.length_map, show (("" : Str)).length = 0 from rfl, Nat.mul_zero, Nat.add_zero, List.map_map]
      have hs : ∀ l : List Int, (l.map ((fun x : Str => x.length) ∘ fun n => T (plS p n))).sum ≤ 2 * l.length := fun l => by
        induction l with
        | nil => exact Nat.le_refl 0
        | cons n l ih =>
          have := plS_len (p := p) (n := n)
          rw [List.map_cons, List.sum_cons, List.length_cons]
          show (T (plS p n)).length + _ ≤ _
          rw [T_len]
          omega
      have := hs ns
      omega
    · have e2 : (ns.map fun n => T (plS p n)) = (ns.map (plS p)).map T := by rw [List.map_map]; rfl
      rw [show ("" : Str) = T [] from rfl, e2, join_T, ← List.flatMap_def]
      exact q _ s1
def p_signs (K : PySem.W.Frag) : Pm := fun vs H Q => ∃ (p a : Addr) (h w : Nat) (r : Rl) (ws : List L) (g : G2), vs = [.ref p, .ref a] ∧ PlanAt K H p h w r ws ∧ FieldAt K H a h w g ∧ Bd 1000000000 h w g ∧
  ∀ (m : Nat) H', Same H H' → m ≤ 30 → (∀ y x, y < h → x < w → (g y x).natAbs < 2 ^ m) → Q (.str (T (headT h w r ws m ++ bodyT m ((orderM (h, w) ws).map fun q => g q.1 q.2) m))) H'
theorem ok_signs (S : TX K mg) : OkF P w K mg base 10 (He.ga K "signs") (p_signs K) := by
  refine okF (F_signs S) sc_signs (by tm_at "len") (fun _ _ _ _ _ _ us hl => match us, hl with | [_, _], _ => rfl) (fun cdv A outer s H vs Q E hr h => ?_)
  obtain ⟨p, a, h, n, r, ws, g, rfl, Pl, F, b, q⟩ := h
  refine ⟨_, (pss_cons (ps_set (i := 2) sc_signs.nd rfl (Or.inl rfl) (pe_f (ok_planes_of S) (hr.mono (by decide)) rfl (glo_planes_of S) (pa_cons (pv 0) (pa_cons (pv 1) pa_nil))))
    (pss_cons (ps_setLc (i := 3) (own := [("place", 7)]) (g := gName 7) (tt := tYes)  rfl sc_signs.nd rfl rfl (sw_true rfl rfl rfl (by decide +kernel)) (kList (K := K) rfl (pe_mt0 (pv 0) (cls_Plan S) (me_Plan_order S) (ok_Plan_order S) (hr.mono (by decide)))) (blkOk_by (own := [("place", 7)]) (N := ["plan", "numbers", "planes", "ordered", "text", "power", "plane", "place"]) (sc := defScope s_signs) (by decide +kernel)) (fun _ _ _ _ _ => (pg_name (i := 7) sc_signs.nd rfl (Or.inl rfl))) (fun _ _ _ _ _ => pts_nil) (fun _ _ _ _ _ => (pe_mt (pv 1) (cls_Field S) (me_Field_at S) (ok_Field_at S) (hr.mono (by decide)) (pa_cons (pv 7) pa_nil))))
    (pss_cons (ps_set (i := 4) sc_signs.nd rfl (Or.inl rfl) (pe_f (ok_head_of S) (hr.mono (by decide)) rfl (glo_head_of S) (pa_cons (pv 0) (pa_cons (pv 2) pa_nil))))
    (pss_cons (ps_for PassesOwn.never rfl (pi_revR rfl (fr_reversed S) (prg_1 rfl (fr_range S) (pv 2))) (pg_name (i := 5) sc_signs.nd rfl (Or.inl rfl)) (pss_cons (ps_set (i := 6) sc_signs.nd rfl (Or.inl rfl) (pe_f (ok_plane_text S) (hr.mono (by decide)) rfl (glo_plane_text S) (pa_cons (pv 3) (pa_cons (pv 5) pa_nil))))
    (pss_one (ps_set (i := 4) sc_signs.nd rfl (Or.inl rfl) (pe_op op_add_str (pe_op op_add_str (pe_op op_add_str (pv 4) (pv 6)) (pe_f (ok_check_of S) (hr.mono (by decide)) rfl (glo_check_of S) (pa_cons (pv 6) pa_nil))) pe_str)))))
    (pss_one (ps_ret (pv 4))))))), ?_⟩
  have Pl0 := Pl
  obtain ⟨⟨dx, ru, ca, tc, hp, hr1, c⟩, z, ok⟩ := Pl0
  obtain ⟨dxa, la, ra, ea, R⟩ := F.at_
  tm_at "go"
  refine ⟨p, a, h, n, r, ws, g, rfl, Pl, F, b, fun m H1 s1 m30 hm => ?_⟩
  tm_at "go"
  refine gMeE (s1 _ _ hp) rfl ?_
  tm_at "go"
  refine ⟨p, h, n, r, ws, rfl, Pl.same s1, fun D H2 ta s2 nD lo => ?_⟩
  refine gL1 (SqL.of lo.top) ?_
  intro B hB
  have s02 := s1.trans s2
  have lenO : (orderM (h, n) ws).length = h * n := order_len
  have hw := z.hw
  refine lcIt (wTab (m := (orderM (h, n) ws).length) (f := fun i => .ref (ta i))) (fun i H' => Same H2 H' ∧ H' B = some (.lst ((((orderM (h, n) ws).take i).map fun q => g q.1 q.2).map V.int))) ⟨Same.new hB, upd_same⟩ (fun i H' _ z => SqL.of (z.1 _ _ lo.top)) ?_ ?_
  · rintro i x H3 H4 hi ⟨s4, e4⟩ ⟨rfl, rfl⟩
    have hq : (orderM (h, n) ws)[i]? = some (orderM (h, n) ws)[i] := List.getElem?_eq_getElem hi
    obtain ⟨q1, q2⟩ := order_mem.mp (List.mem_of_getElem? hq)
    rw [t_snoc hq, List.map_append, List.map_append]
    tm_at "go"
    refine ⟨rfl, ?_⟩
    tm_at "go"
    refine gMeE ((s02.trans s4) _ _ ea) rfl ?_
    tm_at "go"
    refine ⟨a, ta i, h, n, g, _, _, rfl, F.same (s02.trans s4), s4 _ _ (lo.it i _ hq), q1, q2, ?_⟩
    refine ⟨_, e4, by rw [List.length_map, List.length_map, List.length_take]; exact line_lt (by omega), s4.mut hB, ?_⟩
    rw [upd_same]
    rfl
  rintro H3 ⟨s3, e3⟩
  rw [List.take_length] at e3
  have s03 := s02.trans s3
  generalize hns : (orderM (h, n) ws).map (fun q => g q.1 q.2) = ns at *
  have nl : ns.length ≤ 512 := by rw [← hns, List.length_map]; omega
  have pl := preT_le (h := h) (w := n) (r := r) (m := m) z.h2 z.w2 m30 Pl.wlen
  have hl : (headT h n r ws m).length ≤ 203 := by
    unfold headT chk2
    simp only [List.length_append, List.length_cons, List.length_nil]
    omega
  tm_at "go"
  refine ⟨p, h, n, r, ws, m, rfl, Pl.same s03, m30, ?_⟩
  tm_at "go"
  refine ⟨by omega, by omega, by omega, by omega, ?_⟩
  refine forIt wRv0 (fun i σ H' => Same H H' ∧ H' B = some (.lst (ns.map V.int)) ∧ ∃ v1 v2 v3, σ = [some (.ref p), some (.ref a), some (.int (m : Nat)), some (.ref B), some (.str (T (headT h n r ws m ++ bodyT m ns i))), v1, v2, v3]) ⟨s03, e3, none, none, none, by rw [show bodyT m ns 0 = [] from rfl, List.append_nil]; rfl⟩ (fun _ _ _ _ _ => trivial) ?_ ?_
  · rintro i x σ H4 H5 hi ⟨s4, e4, v1, v2, v3, rfl⟩ ⟨rfl, rfl⟩
    have bl := bodyT_len (m := m) (ns := ns) i
    have pl2 := plane_len (p := m - 1 - i) (ns := ns)
    have b1 : i * (2 * ns.length + 3) ≤ 30 * 1027 := Nat.mul_le_mul (by omega) (by omega)
    tm_at "go"
    refine ⟨B, ns, m - 1 - i, rfl, e4, nl, fun H6 s6 => ?_⟩
    tm_at "go"
    refine ⟨_, _, rfl, rfl, by rw [T_len, T_len, List.length_append]; exact line_le (by omega), ?_⟩
    rw [T_add]
    tm_at "go"
    refine ⟨_, rfl, ?_⟩
    refine ⟨_, _, rfl, rfl, by rw [T_len, T_len, List.length_append, List.length_append]; exact line_le (by unfold chk2; simp only [List.length_cons, List.length_nil]; omega), ?_⟩
    rw [T_add]
    tm_at "go"
    refine ⟨_, _, rfl, rfl, by rw [T_len, List.length_append, List.length_append, List.length_append, show ((";" : Str)).length = 1 from rfl]; exact line_le (by unfold chk2; simp only [List.length_cons, List.length_nil]; omega), ?_⟩
    rw [show (";" : Str) = T [59] from rfl, T_add]
    refine ⟨s4.trans s6, s6 _ _ e4, some (.int ((m - 1 - i : Nat) : Int)), some (.str (T (plane (m - 1 - i) ns))), v3, ?_⟩
    rw [show bodyT m ns (i + 1) = bodyT m ns i ++ planeT (m - 1 - i) ns from rfl]
    unfold planeT
    simp only [List.append_assoc]
    rfl
  · rintro σ H4 ⟨s4, e4, v1, v2, v3, rfl⟩
    tm_at "go"
    exact q m H4 s4 m30 hm
end
end Kp
/-! heads read -/
namespace Kp
open PySem PySem.Spec L2 TL
theorem gM1 {r : V → List V → Hp → VK → Prop} {to te : TE} {σ : L2.St} {H : Hp} {Q : VK} (h : to σ H fun x H1 => (∃ a, x = .str a) ∧ te σ H1 fun y H2 => r x [y] H2 Q) : tM1 r to te σ H Q := h
theorem gThru {t u : TS} {n : L2.St → Hp → Prop} {r : VK} {b c : L2.St → Hp → Prop} {σ : L2.St} {H : Hp} (h : t ⟨u ⟨n, r, b, c⟩, r, b, c⟩ σ H) : tThru t u ⟨n, r, b, c⟩ σ H := h
def p_small_number : Pm := fun vs H Q => ∃ n most : Nat, vs = [.str (T (numL n)), .int (most : Nat)] ∧ n ≤ most ∧ most ≤ 64 ∧ ∀ H', Same H H' → Q (.int (n : Nat)) H'
theorem numL_head {n : Nat} (h : n < 100) : ∃ c l, numL n = c :: l ∧ (c = 48 → n = 0) ∧ (n = 0 → l = []) := by
  by_cases h1 : n < 10
  · exact ⟨_, _, numL_lt h1, fun e => by omega, fun _ => rfl⟩
  · rw [numL_step (by omega), numL_lt (show n / 10 < 10 by omega)]
    exact ⟨_, _, rfl, fun e => by omega, fun e => by omega⟩
theorem dig_in {c : Nat} (h : 48 ≤ c ∧ c < 58) : decide (c ∈ ("0123456789" : Str).cps.toList) = true := by
  obtain ⟨h1, h2⟩ := h
  have : ∀ k : Nat, k < 10 → decide (48 + k ∈ ("0123456789" : Str).cps.toList) = true := by decide
  have e := this (c - 48) (by omega)
  rwa [show 48 + (c - 48) = c by omega] at e
theorem numL_dig {n c : Nat} (h : c ∈ numL n) : 48 ≤ c ∧ c < 58 := by
  by_cases a : c < 48
  · exact absurd h (numL_free (.inl a))
  · by_cases b : 57 < c
    · exact absurd h (numL_free (.inr b))
    · omega
theorem at_head {c : Nat} {l : List Nat} : atI (c :: l) 0 = some c := by
  unfold atI ixN
  rw [if_pos (by omega), if_pos (by rw [List.length_cons]; omega)]
  rfl
theorem T_ne {l : List Nat} {z : Str} (h : l ≠ tl z) : V.str (T l) ≠ V.str z := fun e => by
  injection e with e
  exact h (congrArg tl e)
section
variable {P : Program} {w : World} {K : PySem.W.Frag} {mg : Str → Option Value} {base : Heap}
theorem ok_small_number (S : TX K mg) : OkF P w K mg base 1 (He.ga K "small_number") (p_small_number) := by
  refine okF (F_small_number S) sc_small_number (by tm_at "len") (fun _ _ _ _ _ _ us hl => match us, hl with | [_, _], _ => rfl) (fun cdv A outer s H vs Q E hr h => ?_)
  obtain ⟨n, most, rfl, hn, hm, q⟩ := h
  refine ⟨_, (pss_cons (ps_if (PW.pt (pw_or (pt_cmpR op_eq (pv 0) pe_str (nomark _)) (pw_or (pt_cmpR op_gt (pe_callB (kLen (K := K) rfl) rfl (fr_len S) bt_len (pa_cons (pv 0) pa_nil)) pe_int (nomark _)) (pw_or1 (pt_cmpR (kNeD (K := K) rfl hr.units) (pe_lc (own := [("sign", 2)]) (g := gName 2) rfl sc_small_number.nd (pi_str (pv 0)) (blkOk_by (own := [("sign", 2)]) (N := ["word", "most", "sign"]) (sc := defScope s_small_number) (by decide +kernel)) (fun _ _ _ _ _ => (pg_name (i := 2) sc_small_number.nd rfl (Or.inl rfl))) (fun _ _ _ _ _ => (pts_one (pt_cmpR op_notIn_sign (pv 2) pe_str rfl))) (fun _ _ _ _ _ => (pv 2))) (pe_lst pa_nil) (nomark _)))))) (pss_one (ps_ret pe_non)) pss_nil)
    (pss_cons (ps_if (PW.pt (pw_or (PW.pt (pw_and (pt_cmpR op_eq (pe_ix ix_str (pv 0) pe_int (fun _ _ => rfl)) pe_str (nomark _)) (pw_and1 (pt_cmpR op_ne (pv 0) pe_str (nomark _))))) (pw_or1 (pt_cmpR op_gt (pe_callTy call_int_str rfl (fr_int S) bt_int (pa_cons (pv 0) pa_nil)) (pv 1) (nomark _))))) (pss_one (ps_ret pe_non)) pss_nil)
    (pss_one (ps_ret (pe_callTy call_int_str rfl (fr_int S) bt_int (pa_cons (pv 0) pa_nil)))))), ?_⟩
  have l2 := numL_le2 (n := n) (by omega)
  obtain ⟨c, l, e, c0, c1⟩ := numL_head (n := n) (by omega)
  tm_at "go"
  refine gIfF (decide_eq_false (T_ne (by rw [e]; exact fun z => by cases z))) ?_
  tm_at "go"
  refine ⟨_, (numL n).length, rfl, ⟨by rw [T_len]; exact line_le (by omega), by rw [T_len]⟩, ?_⟩
  tm_at "go"
  refine gIfF (decide_eq_false (by omega)) ?_
  tm_at "go"
  intro D hD
  refine lcIt (wT (l := numL n)) (fun i H' => H' = upd H D (.lst [])) rfl (fun _ _ _ _ => trivial) ?_ ?_
  · rintro i x H2 H3 hi rfl ⟨rfl, d, hd, rfl⟩
    tm_at "go"
    refine ⟨rfl, ?_⟩
    tm_at "go"
    refine in_sg ?_
    rw [dig_in (numL_dig (List.mem_of_getElem? hd))]
    tm_at "go"
    rfl
  rintro H2 rfl
  tm_at "go"
  refine ⟨szL rfl, fun D2 hD2 => ?_⟩
  refine ⟨_, _, .lst (SqL.of (get_new (o := .lst []) hD2 (a := D) upd_same)) .nil, .lst (SqL.of upd_same) .nil, rfl, rfl, ?_⟩
  have sH := (Same.new (o := .lst []) hD).trans (Same.new (o := .lst []) hD2)
  generalize upd (upd H D (.lst [])) D2 (.lst []) = H4 at sH ⊢
  tm_at "go"
  have it : PySem.intText? (T (numL n)) = some (n : Int) := by rw [← T_num]; exact int_num (by omega)
  have il : (T (numL n)).length ≤ 640 := by rw [T_len]; omega
  have fin : tSeq (tIfS (tTest (tOp (rI0 fun i j => V.bl (decide (j < i))) (tCB (fun xs H Q => ∃ a n, xs = [V.str a] ∧ PySem.intText? a = some n ∧ a.length ≤ 640 ∧ Q (V.int n) H) (tCons (tVar 0) tNil)) (tVar 1))) (tRet (tC V.non)) tNext) (tRet (tCB (fun xs H Q => ∃ a n, xs = [V.str a] ∧ PySem.intText? a = some n ∧ a.length ≤ 640 ∧ Q (V.int n) H) (tCons (tVar 0) tNil))) { nx := fun x H' => Q V.non H', rt := Q }
      (L2.start ["word", "most", "sign"] [V.str (T (numL n)), V.int ↑most]) H4 := by
    tm_at "go"
    refine ⟨_, _, rfl, it, il, ?_⟩
    tm_at "go"
    refine gIfF (decide_eq_false (by omega)) ?_
    tm_at "go"
    exact ⟨_, _, rfl, it, il, q _ sH⟩
  refine ⟨T (numL n), 0, c, rfl, rfl, by rw [T_len]; exact line_le (by omega), by rw [show (T (numL n)).cps.toList = c :: l from e]; exact at_head, ?_⟩
  tm_at "go"
  by_cases hc : c = 48
  · refine gIfT (decide_eq_true (by rw [hc]; rfl)) ?_
    tm_at "go"
    have e0 : V.str (T (numL n)) = V.str "0" := by rw [e, hc, c1 (c0 hc)]; rfl
    refine gIfF (by rw [decide_eq_true e0]; rfl) ?_
    exact fin
  · refine gIfF (decide_eq_false (fun z => hc (by injection z with z; have := congrArg tl z; injection this))) ?_
    exact fin
/-! ### a head's words -/
def chkT (h w : Nat) (r : Rl) (ws : List L) (m : Nat) : List Nat := chk2 (preT h w r ws m)
def wordsT (h w : Nat) (r : Rl) (ws : List L) (m : Nat) : List (List Nat) := [tl "halved", numL h, numL w, tl r.word, wayC ws, numL m, chkT h w r ws m]
def wordsV (h w : Nat) (r : Rl) (ws : List L) (m : Nat) : List V := [.str "halved", .str (T (numL h)), .str (T (numL w)), .str r.word, .str (T (wayC ws)), .str (T (numL m)), .str (T (chkT h w r ws m))]
def p_plan_told (K : PySem.W.Frag) : Pm := fun vs H Q => ∃ (a : Addr) (h w : Nat) (r : Rl) (ws : List L) (m : Nat), vs = [.ref a] ∧ H a = some (.lst (wordsV h w r ws m)) ∧ Sz h w ∧ WOk (h, w) ws ∧ ∀ p H', Same H H' → PlanAt K H' p h w r ws → Q (.ref p) H'
theorem wayC_ne (ws : List L) : V.str (T (wayC ws)) ≠ V.str "" := by
  refine T_ne ?_
  unfold wayC
  cases ws with
  | nil => intro z; cases z
  | cons l ls => intro z; cases z
theorem wayC_back (ws : List L) : (if decide (V.str (T (wayC ws)) = V.str "-") = true then V.str "" else V.str (T (wayC ws))) = V.str (wayS ws) := by
  cases ws with
  | nil => rfl
  | cons l ls =>
    have ne : V.str (T (wayC (l :: ls))) ≠ V.str "-" := by
      refine T_ne fun z => ?_
      have z2 : l.code :: ls.map L.code = [45] := z
      cases l <;> cases z2
    rw [decide_eq_false ne, if_neg Bool.false_ne_true]
    rfl
theorem ok_plan_told (S : TX K mg) : OkF P w K mg base 6 (He.ga K "plan_told") (p_plan_told K) := by
  refine okF (F_plan_told S) sc_plan_told (by tm_at "len") (fun _ _ _ _ _ _ us hl => match us, hl with | [_], _ => rfl) (fun cdv A outer s H vs Q E hr h => ?_)
  obtain ⟨a, h, n, r, ws, m, rfl, ha, z, ok, q⟩ := h
  refine ⟨_, (pss_cons (ps_set (i := 1) sc_plan_told.nd rfl (Or.inl rfl) (pe_f (ok_small_number S) (hr.mono (by decide)) rfl (glo_small_number S) (pa_cons (pe_ix (kIxL (K := K) rfl) (pv 0) pe_int (fun _ _ => rfl)) (pa_cons pe_int pa_nil))))
    (pss_cons (ps_set (i := 2) sc_plan_told.nd rfl (Or.inl rfl) (pe_f (ok_small_number S) (hr.mono (by decide)) rfl (glo_small_number S) (pa_cons (pe_ix (kIxL (K := K) rfl) (pv 0) pe_int (fun _ _ => rfl)) (pa_cons pe_int pa_nil))))
    (pss_cons (ps_set (i := 3) sc_plan_told.nd rfl (Or.inl rfl) (pe_ix (kIxL (K := K) rfl) (pv 0) pe_int (fun _ _ => rfl)))
    (pss_cons (ps_if (pt_cmpR op_eq (pv 3) pe_str (nomark _)) (pss_one (ps_ret pe_non)) pss_nil)
    (pss_cons (ps_if (pt_cmpR op_eq (pv 3) pe_str (nomark _)) (pss_one (ps_set (i := 3) sc_plan_told.nd rfl (Or.inl rfl) pe_str)) pss_nil)
    (pss_one (ps_try_thru (pss_one (ps_set (i := 4) sc_plan_told.nd rfl (Or.inl rfl) (pe_mk (mkr_Plan S) (ok_Plan_init S) (hr.mono (by decide)) rfl (glo_Plan S) (pa_cons (pv 1) (pa_cons (pv 2) (pa_cons (pe_ix (kIxL (K := K) rfl) (pv 0) pe_int (fun _ _ => rfl)) (pa_cons (pv 3) pa_nil))))))) (pss_one (ps_ret (pv 4)))))))))), ?_⟩
  have zh := z.h2
  have zw := z.w2
  unfold wordsV at ha
  tm_at "go"
  refine gIxL (SqL.of ha) (i := 1) rfl ?_
  tm_at "go"
  refine ⟨h, 64, rfl, zh, by omega, fun H1 s1 => ?_⟩
  tm_at "go"
  refine gIxL (SqL.of (s1 _ _ ha)) (i := 2) rfl ?_
  tm_at "go"
  refine ⟨n, 64, rfl, zw, by omega, fun H2 s2 => ?_⟩
  have s02 := s1.trans s2
  tm_at "go"
  refine gIxL (SqL.of (s02 _ _ ha)) (i := 4) rfl ?_
  tm_at "go"
  refine gIfF (decide_eq_false (wayC_ne ws)) ?_
  tm_at "go"
  refine gIfN rfl ?_
  rw [wayC_back]
  refine gSeq ?_
  tm_at "go"
  refine gIxL (SqL.of (s02 _ _ ha)) (i := 3) rfl ?_
  tm_at "go"
  intro x dx hx hdx nx
  have nd : x ≠ dx := nx.symm
  refine ⟨x, dx, h, n, r, ws, rfl, upd_same, z, ok, fun H4 k4 Pl => ⟨rfl, ?_⟩⟩
  tm_at "go"
  refine q x H4 (fun b o e => k4 b o (fun eb => ?_) ?_) Pl
  · rw [eb] at e
    rw [s02 _ _ e] at hx
    cases hx
  · have e2 := s02 _ _ e
    rw [upd_ne (ne_of_none e2 hx), upd_ne (ne_of_none e2 hdx)]
    exact e2
theorem cutS_T {l : List Nat} {lo hi : Option Int} {a b : Nat} (ha : HT.sIx l.length 0 lo = a) (hb : HT.sIx l.length l.length hi = b) : cutS (T l) lo hi = T ((l.drop a).take (b - a)) := by
  unfold cutS
  rw [T_len, ha, hb]
def p_head_in (K : PySem.W.Frag) : Pm := fun vs H Q => ∃ (h w : Nat) (r : Rl) (ws : List L) (m : Nat) (body : List Nat), vs = [.str (T (headT h w r ws m ++ body))] ∧ Sz h w ∧ WOk (h, w) ws ∧ ws.length ≤ 126 ∧ m ≤ 30 ∧ body.length ≤ 40000 ∧
  ∀ t p H', Same H H' → PlanAt K H' p h w r ws → H' t = some (.tup [.ref p, .int (m : Nat), .int ((headT h w r ws m).length : Nat)]) → Q (.ref t) H'
theorem preT_free {h w : Nat} {r : Rl} {ws : List L} {m : Nat} : 58 ∉ preT h w r ws m ++ chkT h w r ws m := by
  have a : ∀ k, 58 ∉ numL k := fun k => numL_free (.inr (by decide))
  have b : 58 ∉ tl r.word := by cases r <;> decide
  have c : 58 ∉ wayC ws := by
    unfold wayC
    split
    · decide
    · intro hm
      obtain ⟨l, _, e⟩ := List.mem_map.mp hm
      cases l <;> cases e
  have d : 58 ∉ tl "halved " := by decide
  have f : 58 ∉ chkT h w r ws m := fun hm => by have := chk2_dig hm; omega
  have g : 58 ∉ [32] := by decide
  have two : ∀ {x y : List Nat}, 58 ∉ x → 58 ∉ y → 58 ∉ x ++ y := fun h1 h2 hm => (List.mem_append.mp hm).elim h1 h2
  unfold preT
  exact two (two (two (two (two (two (two (two (two (two (two d (a h)) g) (a w)) g) b) g) c) g) (a m)) g) f
theorem words_free {h w : Nat} {r : Rl} {ws : List L} {m : Nat} : ∀ p ∈ wordsT h w r ws m, 32 ∉ p := by
  have a : ∀ k, 32 ∉ numL k := fun k => numL_free (.inl (by decide))
  have b : 32 ∉ tl r.word := by cases r <;> decide
  have c : 32 ∉ wayC ws := by
    unfold wayC
    split
    · decide
    · intro hm
      obtain ⟨l, _, e⟩ := List.mem_map.mp hm
      cases l <;> cases e
  have d : 32 ∉ tl "halved" := by decide
  have f : 32 ∉ chkT h w r ws m := fun hm => by have := chk2_dig hm; omega
  intro p hp
  unfold wordsT at hp
  simp only [List.mem_cons, List.not_mem_nil, or_false] at hp
  rcases hp with rfl | rfl | rfl | rfl | rfl | rfl | rfl
  · exact d
  · exact a _
  · exact a _
  · exact b
  · exact c
  · exact a _
  · exact f
theorem words_join {h w : Nat} {r : Rl} {ws : List L} {m : Nat} : joinL [32] (wordsT h w r ws m) = preT h w r ws m ++ chkT h w r ws m := by
  unfold wordsT preT
  simp only [joinL, List.append_assoc]
  rfl
theorem split_head {h w : Nat} {r : Rl} {ws : List L} {m : Nat} : Txt.split (T (preT h w r ws m ++ chkT h w r ws m)) " " = (wordsT h w r ws m).map T := by
  have e : Txt.join " " ((wordsT h w r ws m).map T) = T (preT h w r ws m ++ chkT h w r ws m) := by
    rw [join_eq]
    refine ext_tl ?_
    rw [tl_join, List.map_map, show (tl ∘ T) = id from rfl, List.map_id, ← words_join]
    rfl
  rw [← e]
  refine split_join (s := 32) (S := []) rfl (by decide +kernel) (fun z => by cases z) fun p hp => ?_
  obtain ⟨l, hl, rfl⟩ := List.mem_map.mp hp
  exact words_free l hl
theorem words_V {h w : Nat} {r : Rl} {ws : List L} {m : Nat} : ((wordsT h w r ws m).map T).map V.str = wordsV h w r ws m := by
  unfold wordsT wordsV
  simp only [List.map_cons, List.map_nil]
theorem part_head {h w : Nat} {r : Rl} {ws : List L} {m : Nat} {body : List Nat} : Txt.partition (T (headT h w r ws m ++ body)) ":" = (T (preT h w r ws m ++ chkT h w r ws m), (":" : Str), T body) := by
  have e : T (headT h w r ws m ++ body) = T (preT h w r ws m ++ chkT h w r ws m) ++ (":" : Str) ++ T body := by
    rw [show (":" : Str) = T [58] from rfl, T_add, T_add]
    rfl
  rw [e]
  exact partition_app (s := 58) (S := []) rfl preT_free
theorem ok_head_in (S : TX K mg) : OkF P w K mg base 7 (He.ga K "head_in") (p_head_in K) := by
  refine okF (F_head_in S) sc_head_in (by tm_at "len") (fun _ _ _ _ _ _ us hl => match us, hl with | [_], _ => rfl) (fun cdv A outer s H vs Q E hr h => ?_)
  obtain ⟨tMOST_PLANES, gMOST_PLANES⟩ := int_MOST_PLANES S
  obtain ⟨h, n, r, ws, m, body, rfl, z, ok, wl, hm, hb, q⟩ := h
  refine ⟨_, (pss_cons (ps_asg (pe_partition (pv 0) pe_str) (kPTup (K := K) (n := 3) rfl rfl (pgs_cons (pg_name (i := 1) sc_head_in.nd rfl (Or.inl rfl)) (pgs_cons (pg_name (i := 2) sc_head_in.nd rfl (Or.inl rfl)) (pgs_cons (pg_name (i := 3) sc_head_in.nd rfl (Or.inl rfl)) pgs_nil)))))
    (pss_cons (ps_set (i := 4) sc_head_in.nd rfl (Or.inl rfl) (pe_split (pv 1) pe_str))
    (pss_cons (ps_if (PW.pt (pw_or (pt_cmpR op_eq (pv 2) pe_str (nomark _)) (pw_or (pt_cmpR op_ne (pe_callB (kLen (K := K) rfl) rfl (fr_len S) bt_len (pa_cons (pv 4) pa_nil)) pe_int (nomark _)) (pw_or (pt_cmpR op_ne (pe_ix (kIxL (K := K) rfl) (pv 4) pe_int (fun _ _ => rfl)) pe_str (nomark _)) (pw_or1 (pt_cmpR op_isN (pe_f (ok_small_number S) (hr.mono (by decide)) rfl (glo_small_number S) (pa_cons (pe_ix (kIxL (K := K) rfl) (pv 4) pe_int (fun _ _ => rfl)) (pa_cons (pe_glob (v := .int 30) rfl gMOST_PLANES ⟨_, rfl⟩) pa_nil))) pe_non (nomark _))))))) (pss_one (ps_ret pe_non)) pss_nil)
    (pss_cons (ps_set (i := 5) sc_head_in.nd rfl (Or.inl rfl) (pe_f (ok_plan_told S) (hr.mono (by decide)) rfl (glo_plan_told S) (pa_cons (pv 4) pa_nil)))
    (pss_cons (ps_if (PW.pt (pw_or (pt_cmpR op_isN (pv 5) pe_non (nomark _)) (pw_or1 (pt_cmpR op_ne (pe_ix (kIxL (K := K) rfl) (pv 4) pe_int (fun _ _ => rfl)) (pe_f (ok_check_of S) (hr.mono (by decide)) rfl (glo_check_of S) (pa_cons (pe_slice sl_str (pv 1) po_none (po_some (pe_op op_sub (pe_callB (kLen (K := K) rfl) rfl (fr_len S) bt_len (pa_cons (pv 1) pa_nil)) (pe_callB (kLen (K := K) rfl) rfl (fr_len S) bt_len (pa_cons (pe_ix (kIxL (K := K) rfl) (pv 4) pe_int (fun _ _ => rfl)) pa_nil))))) pa_nil)) (nomark _))))) (pss_one (ps_ret pe_non)) pss_nil)
    (pss_one (ps_ret (pe_tup (pa_cons (pv 5) (pa_cons (pe_callTy call_int_str rfl (fr_int S) bt_int (pa_cons (pe_ix (kIxL (K := K) rfl) (pv 4) pe_int (fun _ _ => rfl)) pa_nil)) (pa_cons (pe_op op_add (pe_callB (kLen (K := K) rfl) rfl (fr_len S) bt_len (pa_cons (pv 1) pa_nil)) pe_int) pa_nil))))))))))), ?_⟩
  have zh := z.h2
  have zw := z.w2
  have pl := preT_le (h := h) (w := n) (r := r) (m := m) zh zw hm wl
  have cl : (chkT h n r ws m).length = 2 := rfl
  have hl : (headT h n r ws m).length = (preT h n r ws m).length + 3 := by
    unfold headT chk2
    simp only [List.length_append, List.length_cons, List.length_nil]
  tm_at "go"
  refine gM1 ?_
  tm_at "go"
  refine ⟨⟨_, rfl⟩, ?_⟩
  tm_at "go"
  refine ⟨_, _, rfl, rfl, rfl, by rw [T_len, List.length_append]; exact line_le (by omega), fun t0 ht0 => ?_⟩
  rw [part_head]
  have e0 := upd_same (H := H) (a := t0) (o := .tup [.str (T (preT h n r ws m ++ chkT h n r ws m)), .str ":", .str (T body)])
  have s0 := Same.new (H := H) (p := t0) (o := .tup [.str (T (preT h n r ws m ++ chkT h n r ws m)), .str ":", .str (T body)]) ht0
  dsimp only
  generalize upd H t0 _ = H0 at e0 s0 ⊢
  refine gTp (SqT.of e0) rfl ?_
  tm_at "go"
  refine gM1 ?_
  tm_at "go"
  refine ⟨⟨_, rfl⟩, ?_⟩
  tm_at "go"
  refine ⟨_, _, rfl, rfl, rfl, by rw [T_len, List.length_append, cl]; exact line_le (by omega), fun D hD => ?_⟩
  rw [split_head, words_V]
  have e1 := upd_same (H := H0) (a := D) (o := .lst (wordsV h n r ws m))
  have s1 := s0.trans (Same.new (H := H0) (p := D) (o := .lst (wordsV h n r ws m)) hD)
  generalize upd H0 D _ = H1 at e1 s1 ⊢
  have e1' := e1
  unfold wordsV at e1'
  tm_at "go"
  refine ⟨_, 7, rfl, .inl ⟨_, SqL.of e1', rfl⟩, ?_⟩
  tm_at "go"
  refine gIxL (SqL.of e1') (i := 0) rfl ?_
  tm_at "go"
  refine gIxL (SqL.of e1') (i := 5) rfl ?_
  tm_at "go"
  refine ⟨m, 30, rfl, hm, by decide, fun H2 s2 => ?_⟩
  tm_at "go"
  refine ⟨rfl, ?_⟩
  tm_at "go"
  refine ⟨D, h, n, r, ws, m, rfl, s2 _ _ e1, z, ok, fun p H3 s3 Pl => ?_⟩
  have e3 := s3 _ _ (s2 _ _ e1')
  tm_at "go"
  refine ⟨rfl, ?_⟩
  tm_at "go"
  refine gIxL (SqL.of e3) (i := 6) rfl ?_
  tm_at "go"
  refine ⟨_, (preT h n r ws m ++ chkT h n r ws m).length, rfl, ⟨by rw [T_len, List.length_append, cl]; exact line_le (by omega), by rw [T_len]⟩, ?_⟩
  tm_at "go"
  refine gIxL (SqL.of e3) (i := 6) rfl ?_
  tm_at "go"
  refine ⟨_, (chkT h n r ws m).length, rfl, ⟨by rw [T_len, cl]; decide, by rw [T_len]⟩, ?_⟩
  tm_at "go"
  refine ⟨_, rfl, by rw [T_len, List.length_append, cl]; exact line_le (by omega), ?_⟩
  have hi0 : (((preT h n r ws m ++ chkT h n r ws m).length : Nat) : Int) - (((chkT h n r ws m).length : Nat) : Int) = (((preT h n r ws m).length : Nat) : Int) := by rw [List.length_append]; omega
  rw [hi0, cutS_T (a := 0) (b := (preT h n r ws m).length) rfl (sIx_nat (by rw [List.length_append]; omega)), List.drop_zero, Nat.sub_zero, List.take_left]
  tm_at "go"
  refine ⟨_, rfl, ?_⟩
  tm_at "go"
  refine gIfF (by rw [decide_eq_true (show V.str (T (chkT h n r ws m)) = V.str (T (chk2 (preT h n r ws m))) from rfl)]; rfl) ?_
  tm_at "go"
  refine gIxL (SqL.of e3) (i := 5) rfl ?_
  tm_at "go"
  refine ⟨_, (m : Int), rfl, by rw [← T_num]; exact int_num (by have := numL_le2 (n := m) (by omega); omega), by have := numL_le2 (n := m) (by omega); rw [T_len]; omega, ?_⟩
  tm_at "go"
  refine ⟨_, (preT h n r ws m ++ chkT h n r ws m).length, rfl, ⟨by rw [T_len, List.length_append, cl]; exact line_le (by omega), by rw [T_len]⟩, ?_⟩
  tm_at "go"
  refine ⟨szL rfl, fun t ht => q t p _ ((s1.trans (s2.trans s3)).trans (Same.new ht)) (Pl.same (Same.new ht)) ?_⟩
  rw [upd_same, hl, List.length_append, cl]
  rfl
end
end Kp
/-! a row of signs read -/
namespace Kp
open PySem PySem.Spec L2 TL
/-- what stands fast while a row is read -/
structure RdC where
  p : Addr
  dx : Addr
  d : Addr
  o : Addr
  a : Addr
  b : Addr
  l : Addr
  tx : List Nat
  hd : List Nat
  m : Nat
  ns : List Int
abbrev RdC.N (c : RdC) : Nat := c.ns.length
abbrev RdC.n (c : RdC) (j : Nat) : Int := c.ns.getD j 0
def fR (c : RdC) (cu : Nat) : List (Str × V) := [("told_signs", .str (T c.tx)), ("design", .ref c.d), ("powers", .int (c.m : Nat)), ("cursor", .int (cu : Nat)), ("ordered", .ref c.o), ("amounts", .ref c.a), ("minus", .ref c.b), ("lacking", .ref c.l)]
structure RdK (c : RdC) : Prop where
  pre : c.tx <+: (c.hd ++ bodyT c.m c.ns c.m)
  tx : c.tx.length ≤ 50000
  m : c.m ≤ 30
  N : c.N ≤ 512
  pa : c.a ≠ c.p
  pb : c.b ≠ c.p
  pl : c.l ≠ c.p
  ab : c.b ≠ c.a
  al : c.l ≠ c.a
  bl : c.l ≠ c.b
def rdT (c : RdC) : Addr → Prop := fun x => x = c.p ∨ x = c.a ∨ x = c.b ∨ x = c.l
structure RdG (K : PySem.W.Frag) (c : RdC) (H : Hp) (cu : Nat) (fa : Nat → Int) (fb : Nat → Bool) (fl : Nat → Int) : Prop where
  k : RdK c
  ins : H c.p = some (.ins (He.ga K "Reading") c.dx (fR c cu))
  ord : ∃ xs : List V, H c.o = some (.lst xs) ∧ xs.length = c.N
  oT : ¬ rdT c c.o
  am : H c.a = some (.lst (tab c.N fun j => .int (fa j)))
  mi : H c.b = some (.lst (tab c.N fun j => .bl (fb j)))
  la : H c.l = some (.lst (tab c.N fun j => .int (fl j)))
  cu : cu ≤ c.tx.length
section
variable {K : PySem.W.Frag} {c : RdC} {H H' : Hp} {cu : Nat} {fa : Nat → Int} {fb : Nat → Bool} {fl : Nat → Int}
theorem RdG.congr {fa' : Nat → Int} {fb' : Nat → Bool} {fl' : Nat → Int} (r : RdG K c H cu fa fb fl) (h1 : ∀ i, i < c.N → fa i = fa' i) (h2 : ∀ i, i < c.N → fb i = fb' i) (h3 : ∀ i, i < c.N → fl i = fl' i) : RdG K c H cu fa' fb' fl' :=
  ⟨r.k, r.ins, r.ord, r.oT, by rw [r.am, tab_congr fun i hi => by rw [h1 i hi]], by rw [r.mi, tab_congr fun i hi => by rw [h2 i hi]], by rw [r.la, tab_congr fun i hi => by rw [h3 i hi]], r.cu⟩
theorem RdG.cur {cu' : Nat} (r : RdG K c H cu fa fb fl) (h : cu' ≤ c.tx.length) : RdG K c (upd H c.p (.ins (He.ga K "Reading") c.dx (fR c cu'))) cu' fa fb fl := by
  obtain ⟨xs, e, l⟩ := r.ord
  refine ⟨r.k, upd_same, ⟨xs, ?_, l⟩, r.oT, ?_, ?_, ?_, h⟩
  · rw [upd_ne fun z => r.oT (.inl z)]; exact e
  · rw [upd_ne r.k.pa]; exact r.am
  · rw [upd_ne r.k.pb]; exact r.mi
  · rw [upd_ne r.k.pl]; exact r.la
theorem RdG.setA {j : Nat} {v : Int} (r : RdG K c H cu fa fb fl) : RdG K c (upd H c.a (.lst ((tab c.N fun j => .int (fa j)).set j (.int v)))) cu (fun i => if i = j then v else fa i) fb fl := by
  obtain ⟨xs, e, l⟩ := r.ord
  refine ⟨r.k, ?_, ⟨xs, ?_, l⟩, r.oT, ?_, ?_, ?_, r.cu⟩
  · rw [upd_ne r.k.pa.symm]; exact r.ins
  · rw [upd_ne fun z => r.oT (.inr (.inl z))]; exact e
  · rw [upd_same, tab_set]
    exact congrArg (fun l => some (HO.lst l)) (tab_congr fun i _ => by split <;> rfl)
  · rw [upd_ne r.k.ab]; exact r.mi
  · rw [upd_ne r.k.al]; exact r.la
theorem RdG.setB {j : Nat} {v : Bool} (r : RdG K c H cu fa fb fl) : RdG K c (upd H c.b (.lst ((tab c.N fun j => .bl (fb j)).set j (.bl v)))) cu fa (fun i => if i = j then v else fb i) fl := by
  obtain ⟨xs, e, l⟩ := r.ord
  refine ⟨r.k, ?_, ⟨xs, ?_, l⟩, r.oT, ?_, ?_, ?_, r.cu⟩
  · rw [upd_ne r.k.pb.symm]; exact r.ins
  · rw [upd_ne fun z => r.oT (.inr (.inr (.inl z)))]; exact e
  · rw [upd_ne r.k.ab.symm]; exact r.am
  · rw [upd_same, tab_set]
    exact congrArg (fun l => some (HO.lst l)) (tab_congr fun i _ => by split <;> rfl)
  · rw [upd_ne r.k.bl]; exact r.la
theorem RdG.setL {j : Nat} {v : Int} (r : RdG K c H cu fa fb fl) : RdG K c (upd H c.l (.lst ((tab c.N fun j => .int (fl j)).set j (.int v)))) cu fa fb (fun i => if i = j then v else fl i) := by
  obtain ⟨xs, e, l⟩ := r.ord
  refine ⟨r.k, ?_, ⟨xs, ?_, l⟩, r.oT, ?_, ?_, ?_, r.cu⟩
  · rw [upd_ne r.k.pl.symm]; exact r.ins
  · rw [upd_ne fun z => r.oT (.inr (.inr (.inr z)))]; exact e
  · rw [upd_ne r.k.al.symm]; exact r.am
  · rw [upd_ne r.k.bl.symm]; exact r.mi
  · rw [upd_same, tab_set]
    exact congrArg (fun l => some (HO.lst l)) (tab_congr fun i _ => by split <;> rfl)
/-- the next sign -/
theorem RdG.next {ch : Nat} {X : List Nat} (r : RdG K c H cu fa fb fl) (h : StAt (c.hd ++ bodyT c.m c.ns c.m) cu (ch :: X)) (n : cu ≠ c.tx.length) : c.tx[cu]? = some ch ∧ cu + 1 ≤ c.tx.length := by
  have l := r.cu
  have e := h.head.1
  have hl : cu < c.tx.length := by omega
  obtain ⟨u, eu⟩ := r.k.pre
  rw [← eu, List.getElem?_append_left hl] at e
  exact ⟨e, hl⟩
end
theorem ne_emp (ch : Nat) : V.str (T [ch]) ≠ V.str "" := T_ne (show [ch] ≠ [] from fun z => by cases z)
theorem at_get {l : List Nat} {i ch : Nat} (h : l[i]? = some ch) : atI (T l).cps.toList (i : Int) = some ch := by
  have hl := (List.getElem?_eq_some_iff.mp h).1
  show atI l (i : Int) = some ch
  unfold atI ixN
  rw [if_pos (by omega), if_pos (by omega)]
  show l[(i : Int).toNat]? = _
  rw [Int.toNat_natCast, h]
def p_sign_of (K : PySem.W.Frag) : Pm := fun vs H Q => ∃ (c : RdC) (cu : Nat) (fa : Nat → Int) (fb : Nat → Bool) (fl : Nat → Int) (z : Str), vs = [.ref c.p, .str z] ∧ RdG K c H cu fa fb fl ∧ (cu = c.tx.length → Q (.str "") H) ∧ (cu ≠ c.tx.length → ∃ ch, c.tx[cu]? = some ch ∧ ch ∈ tl z ∧ Q (.str (T [ch])) H)
def p_read_check (K : PySem.W.Frag) : Pm := fun vs H Q => ∃ (c : RdC) (i cu : Nat) (fa : Nat → Int) (fb : Nat → Bool) (fl : Nat → Int), vs = [.ref c.p, .int ((c.hd.length + (bodyT c.m c.ns i).length : Nat) : Int)] ∧ i < c.m ∧ RdG K c H cu fa fb fl ∧ cu = c.hd.length + (bodyT c.m c.ns i).length + (plane (c.m - 1 - i) c.ns).length ∧
  ∀ (r : Bool) (cu' : Nat) H', Kept (rdT c) H H' → RdG K c H' cu' fa fb fl → (r = true → cu' = c.hd.length + (bodyT c.m c.ns (i + 1)).length) → Q (.bl r) H'
section
variable {P : Program} {w : World} {K : PySem.W.Frag} {mg : Str → Option Value} {base : Heap}
theorem ok_Reading_sign_of (S : TX K mg) : OkF P w K mg base 1 (He.ma K (He.ga K "Reading") "sign_of") (p_sign_of K) := by
  refine okF (F_Reading_sign_of S) sc_Reading_sign_of (by tm_at "len") (fun _ _ _ _ _ _ us hl => match us, hl with | [_, _], _ => rfl) (fun cdv A outer s H vs Q E hr h => ?_)
  obtain ⟨c, cu, fa, fb, fl, z, rfl, R, q1, q2⟩ := h
  refine ⟨_, (pss_cons (ps_if (pt_cmpR op_eq (kFld (K := K) rfl (pv 0) rfl) (pe_callB (kLen (K := K) rfl) rfl (fr_len S) bt_len (pa_cons (kFld (K := K) rfl (pv 0) rfl) pa_nil)) (nomark _)) (pss_one (ps_ret pe_str)) pss_nil)
    (pss_cons (ps_set (i := 2) sc_Reading_sign_of.nd rfl (Or.inl rfl) (pe_ix ix_str (kFld (K := K) rfl (pv 0) rfl) (kFld (K := K) rfl (pv 0) rfl) (fun _ _ => rfl)))
    (pss_cons (ps_if (pt_cmpR op_notIn_sign (pv 2) (pv 1) rfl) (pss_one ps_never) pss_nil)
    (pss_one (ps_ret (pv 2)))))), ?_⟩
  have hp := R.ins
  have tl := R.k.tx
  tm_at "go"
  refine gFldE hp (cls_Reading S) (na_Reading_cursor S) rfl ?_
  tm_at "go"
  refine gFldE hp (cls_Reading S) (na_Reading_told_signs S) rfl ?_
  tm_at "go"
  refine ⟨_, c.tx.length, rfl, ⟨by rw [T_len]; exact line_le (by omega), by rw [T_len]⟩, ?_⟩
  tm_at "go"
  by_cases hc : cu = c.tx.length
  · refine gIfT (decide_eq_true (by rw [hc])) ?_
    tm_at "go"
    exact q1 hc
  · refine gIfF (decide_eq_false (fun e => hc (by injection e with e; omega))) ?_
    obtain ⟨ch, e1, e2, q⟩ := q2 hc
    tm_at "go"
    refine gFldE hp (cls_Reading S) (na_Reading_told_signs S) rfl ?_
    tm_at "go"
    refine gFldE hp (cls_Reading S) (na_Reading_cursor S) rfl ?_
    refine ⟨T c.tx, (cu : Nat), ch, rfl, rfl, by rw [T_len]; exact line_le (by omega), at_get e1, ?_⟩
    tm_at "go"
    refine in_sg ?_
    refine ⟨_, rfl, ?_⟩
    rw [decide_eq_true e2]
    tm_at "go"
    exact q
theorem ok_Reading_read_check (S : TX K mg) : OkF P w K mg base 2 (He.ma K (He.ga K "Reading") "read_check") (p_read_check K) := by
  refine okF (F_Reading_read_check S) sc_Reading_read_check (by tm_at "len") (fun _ _ _ _ _ _ us hl => match us, hl with | [_, _], _ => rfl) (fun cdv A outer s H vs Q E hr h => ?_)
  obtain ⟨c, i, cu, fa, fb, fl, rfl, hi, R, hcu, q⟩ := h
  refine ⟨_, (pss_cons (ps_set (i := 2) sc_Reading_read_check.nd rfl (Or.inl rfl) (kFld (K := K) rfl (pv 0) rfl))
    (pss_cons (ps_for PassesOwn.never rfl (pi_range1 rfl (fr_range S) (pa_cons pe_int pa_nil)) (pg_name (i := 3) sc_Reading_read_check.nd rfl (Or.inl rfl)) (pss_cons (ps_if (pt_cmpR op_eq (pe_mt (pv 0) (cls_Reading S) (me_Reading_sign_of S) (ok_Reading_sign_of S) (hr.mono (by decide)) (pa_cons pe_str pa_nil)) pe_str (nomark _)) (pss_one (ps_ret pe_bl)) pss_nil)
    (pss_one (kSFld (K := K) rfl (pv 0) (pe_op op_add (kFld (K := K) rfl (pv 0) rfl) pe_int) rfl))))
    (pss_cons (ps_if (pt_cmpR op_ne (pe_slice sl_str (kFld (K := K) rfl (pv 0) rfl) (po_some (pv 2)) (po_some (pe_op op_add (pv 2) pe_int))) (pe_f (ok_check_of S) (hr.mono (by decide)) rfl (glo_check_of S) (pa_cons (pe_slice sl_str (kFld (K := K) rfl (pv 0) rfl) (po_some (pv 1)) (po_some (pv 2))) pa_nil)) (nomark _)) (pss_one ps_never) pss_nil)
    (pss_cons (ps_if (pt_cmpR op_eq (pe_mt (pv 0) (cls_Reading S) (me_Reading_sign_of S) (ok_Reading_sign_of S) (hr.mono (by decide)) (pa_cons pe_str pa_nil)) pe_str (nomark _)) (pss_one (ps_ret pe_bl)) pss_nil)
    (pss_cons (kSFld (K := K) rfl (pv 0) (pe_op op_add (kFld (K := K) rfl (pv 0) rfl) pe_int) rfl)
    (pss_one (ps_ret pe_bl))))))), ?_⟩
  have hS := at_plane (hd := c.hd) (ns := c.ns) hi
  unfold planeT at hS
  have hS1 := hS.app.1.app.1
  have hS2 := hS.app.1.app.2
  have hS3 := hS.app.2
  have rcu := R.cu
  have rtx := R.k.tx
  rw [List.length_append, ← Nat.add_assoc, ← hcu] at hS3
  rw [← hcu] at hS2
  generalize hpl : plane (c.m - 1 - i) c.ns = pln at *
  have hlen : (chk2 pln).length = 2 := rfl
  rw [hlen] at hS3
  have bl : (bodyT c.m c.ns (i + 1)).length = (bodyT c.m c.ns i).length + pln.length + 3 := by
    show (bodyT c.m c.ns i ++ planeT (c.m - 1 - i) c.ns).length = _
    unfold planeT
    rw [hpl]
    simp only [List.length_append, List.length_cons, List.length_nil]
    rw [hlen]
    omega
  generalize hb0 : c.hd.length + (bodyT c.m c.ns i).length = bg at *
  tm_at "go"
  refine gFldE R.ins (cls_Reading S) (na_Reading_cursor S) rfl ?_
  tm_at "go"
  refine gR1 (by omega) ?_
  refine forIt (wRange (m := 2)) (fun t σ H' => Kept (rdT c) H H' ∧ RdG K c H' (cu + t) fa fb fl ∧ ∃ v, σ = [some (.ref c.p), some (.int (bg : Nat)), some (.int (cu : Nat)), v]) ⟨Kept.refl _ _, R, none, rfl⟩ (fun _ _ _ _ _ => trivial) ?_ ?_
  · rintro t x σ H1 H2 ht ⟨k1, R1, v, rfl⟩ ⟨rfl, rfl⟩
    tm_at "go"
    refine gMeE R1.ins rfl ?_
    tm_at "go"
    have dig : ∀ ch, ch ∈ chk2 pln → ch ∈ tl "0123456789" := fun ch hch => of_decide_eq_true (dig_in (chk2_dig hch))
    have nx : cu + t ≠ c.tx.length → ∃ ch, c.tx[cu + t]? = some ch ∧ ch ∈ tl "0123456789" ∧ cu + t + 1 ≤ c.tx.length := fun ne => by
      match t, ht with
      | 0, _ =>
        obtain ⟨e1, e2⟩ := R1.next (X := [48 + chk pln % 10]) hS2 ne
        exact ⟨_, e1, dig _ (by simp [chk2]), e2⟩
      | 1, _ =>
        obtain ⟨e1, e2⟩ := R1.next (X := []) hS2.head.2 ne
        exact ⟨_, e1, dig _ (by simp [chk2]), e2⟩
    refine ⟨c, cu + t, fa, fb, fl, _, rfl, R1, fun hc => ?_, fun hc => ?_⟩
    · tm_at "go"
      exact q false _ _ k1 R1 fun z => by cases z
    · obtain ⟨ch, e1, e2, e3⟩ := nx hc
      refine ⟨ch, e1, e2, ?_⟩
      tm_at "go"
      refine gFldE R1.ins (cls_Reading S) (na_Reading_cursor S) rfl ?_
      tm_at "go"
      refine ⟨c.p, _, c.dx, _, rfl, R1.ins, cls_Reading S, na_Reading_cursor S, flL rfl, ?_⟩
      exact ⟨k1.mut (.inl rfl), R1.cur e3, some (.int (t : Nat)), rfl⟩
  · rintro σ H1 ⟨k1, R1, v, rfl⟩
    have r2 := R1.cu
    tm_at "go"
    refine gFldE R1.ins (cls_Reading S) (na_Reading_told_signs S) rfl ?_
    tm_at "go"
    refine ⟨_, rfl, by rw [T_len]; exact line_le (by omega), ?_⟩
    tm_at "go"
    refine gFldE R1.ins (cls_Reading S) (na_Reading_told_signs S) rfl ?_
    tm_at "go"
    refine ⟨_, rfl, by rw [T_len]; exact line_le (by omega), ?_⟩
    rw [show ((cu : Nat) : Int) + 2 = ((cu + 2 : Nat) : Int) from rfl]
    rw [cutS_T (a := cu) (b := cu + 2) (sIx_nat (by omega)) (sIx_nat (by omega)), cutS_T (a := bg) (b := cu) (sIx_nat (by omega)) (sIx_nat (by omega))]
    have c1 := (hS2.of_pre R1.k.pre (by rw [hlen]; omega)).cut
    have c2 := (hS1.of_pre R1.k.pre (by omega)).cut
    rw [hlen] at c1
    rw [show cu + 2 - cu = 2 by omega, c1, show cu - bg = pln.length by omega, c2]
    refine ⟨pln, rfl, ?_⟩
    tm_at "go"
    refine gIfF (by rw [decide_eq_true rfl]; rfl) ?_
    tm_at "go"
    refine gMeE R1.ins rfl ?_
    tm_at "go"
    refine ⟨c, cu + 2, fa, fb, fl, _, rfl, R1, fun hc => ?_, fun hc => ?_⟩
    · tm_at "go"
      exact q false _ _ k1 R1 fun z => by cases z
    · obtain ⟨e1, e2⟩ := R1.next (X := []) hS3 hc
      refine ⟨59, e1, by decide, ?_⟩
      tm_at "go"
      refine gFldE R1.ins (cls_Reading S) (na_Reading_cursor S) rfl ?_
      tm_at "go"
      refine ⟨c.p, _, c.dx, _, rfl, R1.ins, cls_Reading S, na_Reading_cursor S, flL rfl, ?_⟩
      exact q true (cu + 2 + 1) _ (k1.mut (.inl rfl)) (R1.cur e2) fun _ => by omega
def lev (p j k : Nat) : Nat := if k < j then p else p + 1
theorem lev_eq {p j k : Nat} {α : Type} (f : Nat → α) : f (lev p (j + 1) k) = if k = j then f p else f (lev p j k) := by
  unfold lev
  by_cases h : k = j
  · rw [if_pos h, if_pos (by omega)]
  · rw [if_neg h]
    by_cases h2 : k < j
    · rw [if_pos (by omega), if_pos h2]
    · rw [if_neg (by omega), if_neg h2]
theorem lev_at {p j : Nat} : lev p j j = p + 1 := if_neg (Nat.lt_irrefl _)
abbrev RdS (K : PySem.W.Frag) (c : RdC) (H : Hp) (cu : Nat) (q : Nat → Nat) : Prop := RdG K c H cu (fun j => (amt (q j) (c.n j) : Int)) (fun j => mns (q j) (c.n j)) fun j => (q j : Int)
def p_read_plane (K : PySem.W.Frag) : Pm := fun vs H Q => ∃ (c : RdC) (i : Nat), vs = [.ref c.p, .int ((c.m - 1 - i : Nat) : Int)] ∧ i < c.m ∧ RdS K c H (c.hd.length + (bodyT c.m c.ns i).length) (fun _ => c.m - i) ∧
  ∀ (r : Bool) (cu' : Nat) (q' : Nat → Nat) H', Kept (rdT c) H H' → RdS K c H' cu' q' → (∀ j, q' j ≤ c.m) → (r = true → cu' = c.hd.length + (bodyT c.m c.ns i).length + (plane (c.m - 1 - i) c.ns).length ∧ ∀ j, j < c.N → q' j = c.m - 1 - i) → Q (.bl r) H'
theorem int_of {n : Nat} {k : List Nat} (h : n < 10) (e : k = [48 + n]) : PySem.intText? (T k) = some (n : Int) := by
  rw [e, ← numL_lt h, ← T_num]
  exact int_num (by rw [numL_lt h]; show 1 ≤ 4300; decide)
theorem ok_Reading_read_plane (S : TX K mg) : OkF P w K mg base 2 (He.ma K (He.ga K "Reading") "read_plane") (p_read_plane K) := by
  refine okF (F_Reading_read_plane S) sc_Reading_read_plane (by tm_at "len") (fun _ _ _ _ _ _ us hl => match us, hl with | [_, _], _ => rfl) (fun cdv A outer s H vs Q E hr h => ?_)
  obtain ⟨c, i, rfl, hi, R, q⟩ := h
  refine ⟨_, (pss_cons (ps_for PassesOwn.never rfl (pi_range1 rfl (fr_range S) (pa_cons (pe_callB (kLen (K := K) rfl) rfl (fr_len S) bt_len (pa_cons (kFld (K := K) rfl (pv 0) rfl) pa_nil)) pa_nil)) (pg_name (i := 2) sc_Reading_read_plane.nd rfl (Or.inl rfl)) (pss_cons (ps_set (i := 3) sc_Reading_read_plane.nd rfl (Or.inl rfl) (pe_mt (pv 0) (cls_Reading S) (me_Reading_sign_of S) (ok_Reading_sign_of S) (hr.mono (by decide)) (pa_cons pe_str pa_nil)))
    (pss_cons (ps_if (pt_cmpR op_eq (pv 3) pe_str (nomark _)) (pss_one (ps_ret pe_bl)) pss_nil)
    (pss_cons (ps_if (PW.pt (pw_and (pt_cmpR op_eq (pv 3) pe_str (nomark _)) (pw_and1 (pt_cmpR op_eq (pe_ix (kIxL (K := K) rfl) (kFld (K := K) rfl (pv 0) rfl) (pv 2) (fun _ _ => rfl)) pe_int (nomark _))))) (pss_cons (kSFld (K := K) rfl (pv 0) (pe_op op_add (kFld (K := K) rfl (pv 0) rfl) pe_int) rfl)
    (pss_cons (ps_set (i := 4) sc_Reading_read_plane.nd rfl (Or.inl rfl) (pe_mt (pv 0) (cls_Reading S) (me_Reading_sign_of S) (ok_Reading_sign_of S) (hr.mono (by decide)) (pa_cons pe_str pa_nil)))
    (pss_cons (ps_if (pt_cmpR op_eq (pv 4) pe_str (nomark _)) (pss_one (ps_ret pe_bl)) pss_nil)
    (pss_one (ps_asg (pe_cmpR op_eq (pv 4) pe_str (nomark _)) (pg_sub (kFld (K := K) rfl (pv 0) rfl) (pv 2) set_list)))))) pss_nil)
    (pss_cons (kSFld (K := K) rfl (pv 0) (pe_op op_add (kFld (K := K) rfl (pv 0) rfl) pe_int) rfl)
    (pss_cons (ps_asg (pe_op op_add (pe_ix (kIxL (K := K) rfl) (kFld (K := K) rfl (pv 0) rfl) (pv 2) (fun _ _ => rfl)) (pe_op op_shl (pe_callTy call_int_str rfl (fr_int S) bt_int (pa_cons (pv 3) pa_nil)) (pv 1))) (pg_sub (kFld (K := K) rfl (pv 0) rfl) (pv 2) set_list))
    (pss_one (ps_asg (pv 1) (pg_sub (kFld (K := K) rfl (pv 0) rfl) (pv 2) set_list)))))))))
    (pss_one (ps_ret pe_bl))), ?_⟩
  have hat := fun j n (h : c.ns[j]? = some n) => at_num (hd := c.hd) hi h
  have ep : c.m - i = c.m - 1 - i + 1 := by omega
  have pm : c.m - 1 - i ≤ 30 := by have := R.k.m; omega
  have pc : c.m - 1 - i < c.m := by omega
  rw [ep] at R
  generalize c.m - 1 - i = p at *
  generalize hb0 : c.hd.length + (bodyT c.m c.ns i).length = bg at *
  obtain ⟨xs, eo, lo⟩ := R.ord
  have hN := R.k.N
  tm_at "go"
  refine gFldE R.ins (cls_Reading S) (na_Reading_ordered S) rfl ?_
  tm_at "go"
  refine ⟨_, c.N, rfl, .inl ⟨_, SqL.of eo, lo.symm⟩, ?_⟩
  refine gR1 (by omega) ?_
  rw [Int.toNat_natCast]
  refine forIt (wRange (m := c.N)) (fun j σ H' => Kept (rdT c) H H' ∧ RdS K c H' (bg + (plane p (c.ns.take j)).length) (lev p j) ∧ ∃ v1 v2 v3, σ = [some (.ref c.p), some (.int (p : Nat)), v1, v2, v3]) ⟨Kept.refl _ _, R.congr (fun _ _ => rfl) (fun _ _ => rfl) (fun _ _ => rfl), none, none, none, rfl⟩ (fun _ _ _ _ _ => trivial) ?_ ?_
  · rintro j x σ H1 H2 hj ⟨k1, R1, v1, v2, v3, rfl⟩ ⟨rfl, rfl⟩
    have hn : c.ns[j]? = some c.ns[j] := List.getElem?_eq_getElem hj
    have hnj : c.n j = c.ns[j] := by show c.ns.getD j 0 = _; rw [List.getD_eq_getElem?_getD, hn]; rfl
    have hA := hat j _ hn
    have hpl := congrArg List.length (plane_snoc (p := p) hn)
    rw [List.length_append] at hpl
    have levm : ∀ j k, lev p j k ≤ c.m := fun j k => by unfold lev; split <;> omega
    have out : ∀ {cu : Nat} {H3 : Hp}, Kept (rdT c) H H3 → RdS K c H3 cu (lev p j) → Q (.bl false) H3 := fun k3 R3 => q false _ _ _ k3 R3 (levm j) fun z => by cases z
    generalize hcu : bg + (plane p (c.ns.take j)).length = cu at *
    -- the last three stores
    have tail : ∀ {H3 : Hp} {cu3 d : Nat} {fb : Nat → Bool}, d ≤ 1 → Kept (rdT c) H H3 → RdG K c H3 cu3 (fun k => (amt (lev p j k) (c.n k) : Int)) fb (fun k => (lev p j k : Int)) → cu3 + 1 = bg + (plane p (c.ns.take (j + 1))).length → cu3 + 1 ≤ c.tx.length → (∀ k, k < c.N → fb k = mns (lev p (j + 1) k) (c.n k)) → amt p (c.n j) = amt (p + 1) (c.n j) + d * 2 ^ p →
        ∀ (v4 : Option V), tSeq (sFld K (tVar 0) (tOp (rI0 fun i j => V.int (i + j)) (tFld K (tVar 0) "cursor") (tC (V.int 1))) "cursor")
          (tSeq (tAsg (tOp (rI0 fun i j => V.int (i + j)) (tOp (rIxL K) (tFld K (tVar 0) "amounts") (tVar 2)) (tOp (rI CPow fun i j => V.int (i * 2 ^ j.toNat)) (tCB (fun xs H Q => ∃ a n, xs = [V.str a] ∧ PySem.intText? a = some n ∧ a.length ≤ 640 ∧ Q (V.int n) H) (tCons (tVar 3) tNil)) (tVar 1))) (gSub (tFld K (tVar 0) "amounts") (tVar 2) rSetL))
            (tAsg (tVar 1) (gSub (tFld K (tVar 0) "lacking") (tVar 2) rSetL)))
          { nx := fun σ H' => Kept (rdT c) H H' ∧ RdS K c H' (bg + (plane p (c.ns.take (j + 1))).length) (lev p (j + 1)) ∧ ∃ v1 v2 v3, σ = [some (.ref c.p), some (.int (p : Nat)), v1, v2, v3], rt := Q, bk := tRet (tC (.bl true)) { nx := fun _ H' => Q .non H', rt := Q }, ct := fun σ H' => Kept (rdT c) H H' ∧ RdS K c H' (bg + (plane p (c.ns.take (j + 1))).length) (lev p (j + 1)) ∧ ∃ v1 v2 v3, σ = [some (.ref c.p), some (.int (p : Nat)), v1, v2, v3] }
          [some (.ref c.p), some (.int (p : Nat)), some (.int (j : Nat)), some (.str (T [48 + d])), v4] H3 := by
      intro H3 cu3 d fb hd k3 R3 hc1 hc2 hfb hamt v4
      tm_at "go"
      refine gFldE R3.ins (cls_Reading S) (na_Reading_cursor S) rfl ?_
      tm_at "go"
      refine ⟨c.p, _, c.dx, _, rfl, R3.ins, cls_Reading S, na_Reading_cursor S, flL rfl, ?_⟩
      have R4 := R3.cur (cu' := cu3 + 1) hc2
      have k4 : Kept (rdT c) H (upd H3 c.p (.ins (He.ga K "Reading") c.dx (fR c (cu3 + 1)))) := k3.mut (.inl rfl)
      show tSeq _ _ _ _ (upd H3 c.p (.ins (He.ga K "Reading") c.dx (fR c (cu3 + 1))))
      generalize upd H3 c.p _ = H4 at R4 k4 ⊢
      tm_at "go"
      refine gFldE R4.ins (cls_Reading S) (na_Reading_amounts S) rfl ?_
      tm_at "go"
      refine gIxL (SqL.of R4.am) (at_tab hj) ?_
      tm_at "go"
      refine ⟨_, _, rfl, int_of (show d < 10 by omega) rfl, by rw [T_len]; show 1 ≤ 640; decide, ?_⟩
      tm_at "go"
      refine gI ⟨by omega, by omega, by omega⟩ ?_
      tm_at "go"
      refine gFldE R4.ins (cls_Reading S) (na_Reading_amounts S) rfl ?_
      tm_at "go"
      refine ⟨c.a, _, _, j, rfl, rfl, R4.am, ix_tab hj, ?_⟩
      have R5 := R4.setA (j := j) (v := (amt (lev p j j) (c.n j) : Int) + (d : Int) * 2 ^ ((p : Nat) : Int).toNat)
      have k5 := k4.mut (p := c.a) (o := .lst ((tab c.N fun k => V.int (amt (lev p j k) (c.n k) : Int)).set j (.int ((amt (lev p j j) (c.n j) : Int) + (d : Int) * 2 ^ ((p : Nat) : Int).toNat)))) (.inr (.inl rfl))
      generalize upd H4 c.a _ = H5 at R5 k5 ⊢
      tm_at "go"
      refine gFldE R5.ins (cls_Reading S) (na_Reading_lacking S) rfl ?_
      tm_at "go"
      refine ⟨c.l, _, _, j, rfl, rfl, R5.la, ix_tab hj, ?_⟩
      have R6 := R5.setL (j := j) (v := ((p : Nat) : Int))
      have k6 := k5.mut (p := c.l) (o := .lst ((tab c.N fun k => V.int (lev p j k : Int)).set j (.int ((p : Nat) : Int)))) (.inr (.inr (.inr rfl)))
      rw [hc1] at R6
      refine ⟨k6, R6.congr (fun k hk => ?_) hfb fun k hk => (lev_eq (fun x => (x : Int))).symm, _, _, _, rfl⟩
      rw [lev_eq (fun x => (amt x (c.n k) : Int)), lev_at]
      by_cases e : k = j
      · rw [if_pos e, if_pos e, e, hamt, Int.toNat_natCast]
        simp
      · rw [if_neg e, if_neg e]
    tm_at "go"
    refine gMeE R1.ins rfl ?_
    tm_at "go"
    have lj : lev p j j = p + 1 := lev_at
    have lj1 : ∀ k, mns (lev p (j + 1) k) (c.n k) = if k = j then mns p (c.n k) else mns (lev p j k) (c.n k) := fun k => lev_eq (fun x => mns x (c.n k))
    have same : mns p (c.n j) = mns (p + 1) (c.n j) → ∀ k, k < c.N → mns (lev p j k) (c.n k) = mns (lev p (j + 1) k) (c.n k) := fun e k _ => by
      rw [lj1]
      split
      · rename_i z
        rw [z, lj, e]
      · rfl
    refine ⟨c, cu, _, _, _, _, rfl, R1, fun hc => ?_, fun hc => ?_⟩
    · tm_at "go"
      exact out k1 R1
    · rw [← hnj] at hA hpl
      cases plC p (c.n j) with
      | zero h a b =>
        rw [h] at hA hpl
        rw [List.length_singleton] at hpl
        obtain ⟨e1, e2⟩ := R1.next hA hc
        refine ⟨48, e1, by decide, ?_⟩
        tm_at "gi"
        refine gSeq ?_
        tm_at "gi"
        refine gSeq ?_
        tm_at "gi"
        exact tail (d := 0) (by omega) k1 R1 (by omega) e2 (same b) (by omega) v3
      | one h z a b =>
        rw [h] at hA hpl
        rw [List.length_singleton] at hpl
        obtain ⟨e1, e2⟩ := R1.next hA hc
        refine ⟨49, e1, by decide, ?_⟩
        tm_at "gi"
        refine gSeq ?_
        tm_at "gi"
        refine gSeq ?_
        tm_at "gi"
        refine gFldE R1.ins (cls_Reading S) (na_Reading_amounts S) rfl ?_
        tm_at "gi"
        refine gIxL (SqL.of R1.am) (at_tab hj) ?_
        tm_at "gi"
        refine gIfF (decide_eq_false (fun e => z (by injection e with e; rw [lj] at e; omega))) ?_
        tm_at "gi"
        exact tail (d := 1) (by omega) k1 R1 (by omega) e2 (same b) (by omega) v3
      | sign ch hch h z a b =>
        rw [h] at hA hpl
        obtain ⟨e1, e2⟩ := R1.next hA hc
        refine ⟨49, e1, by decide, ?_⟩
        tm_at "gi"
        refine gSeq ?_
        tm_at "gi"
        refine gSeq ?_
        tm_at "gi"
        refine gFldE R1.ins (cls_Reading S) (na_Reading_amounts S) rfl ?_
        tm_at "gi"
        refine gIxL (SqL.of R1.am) (at_tab hj) ?_
        tm_at "gi"
        refine gIfT (decide_eq_true (by rw [lj, z]; rfl)) ?_
        refine gSeq ?_
        refine gSFld ?_
        tm_at "gi"
        refine gFldE R1.ins (cls_Reading S) (na_Reading_cursor S) rfl ?_
        tm_at "gi"
        refine ⟨c.p, _, c.dx, _, rfl, R1.ins, cls_Reading S, na_Reading_cursor S, flL rfl, ?_⟩
        have R2 := R1.cur (cu' := cu + 1) e2
        have k2 : Kept (rdT c) H (upd H2 c.p (.ins (He.ga K "Reading") c.dx (fR c (cu + 1)))) := k1.mut (.inl rfl)
        show tSeq _ _ _ _ (upd H2 c.p (.ins (He.ga K "Reading") c.dx (fR c (cu + 1))))
        generalize upd H2 c.p _ = H4 at R2 k2 ⊢
        refine gSeq ?_
        tm_at "gi"
        refine gMeE R2.ins rfl ?_
        tm_at "gi"
        refine ⟨c, cu + 1, _, _, _, _, rfl, R2, fun hc2 => ?_, fun hc2 => ?_⟩
        · tm_at "gi"
          refine gSeq ?_
          tm_at "gi"
          exact out k2 R2
        · obtain ⟨e3, e4⟩ := R2.next hA.head.2 hc2
          refine ⟨ch, e3, by rcases hch with rfl | rfl <;> decide, ?_⟩
          tm_at "gi"
          refine gSeq ?_
          tm_at "gi"
          refine gSb ?_
          tm_at "gi"
          refine gFldE R2.ins (cls_Reading S) (na_Reading_minus S) rfl ?_
          tm_at "gi"
          refine ⟨c.b, _, _, j, rfl, rfl, R2.mi, ix_tab hj, ?_⟩
          have R3 := R2.setB (j := j) (v := decide (V.str (T [ch]) = V.str "-"))
          have k3 := k2.mut (p := c.b) (o := .lst ((tab c.N fun k => V.bl (mns (lev p j k) (c.n k))).set j (.bl (decide (V.str (T [ch]) = V.str "-"))))) (.inr (.inr (.inl rfl)))
          generalize upd H4 c.b _ = H5 at R3 k3 ⊢
          have hl2 : [49, ch].length = 2 := rfl
          rw [hl2] at hpl
          refine tail (d := 1) (by omega) k3 R3 (by omega) e4 (fun k hk => ?_) (by omega) _
          rw [lj1]
          split
          · rename_i e
            rw [e, b]
            rcases hch with rfl | rfl
            · rfl
            · rfl
          · rfl
  · rintro σ H1 ⟨k1, R1, v1, v2, v3, rfl⟩
    rw [List.take_of_length_le (Nat.le_refl _)] at R1
    tm_at "go"
    exact q true _ _ _ k1 R1 (fun k => by unfold lev; split <;> omega) fun _ => ⟨rfl, fun k hk => if_pos hk⟩
def p_read_planes (K : PySem.W.Frag) : Pm := fun vs H Q => ∃ c : RdC, vs = [.ref c.p] ∧ RdS K c H c.hd.length (fun _ => c.m) ∧
  ∀ (r : Bool) (cu' : Nat) (q' : Nat → Nat) H', Kept (rdT c) H H' → RdS K c H' cu' q' → (∀ j, q' j ≤ c.m) → Q (.bl r) H'
theorem ok_Reading_read_planes (S : TX K mg) : OkF P w K mg base 3 (He.ma K (He.ga K "Reading") "read_planes") (p_read_planes K) := by
  refine okF (F_Reading_read_planes S) sc_Reading_read_planes (by tm_at "len") (fun _ _ _ _ _ _ us hl => match us, hl with | [_], _ => rfl) (fun cdv A outer s H vs Q E hr h => ?_)
  obtain ⟨c, rfl, R, q⟩ := h
  refine ⟨_, (pss_cons (ps_for PassesOwn.never rfl (pi_revR rfl (fr_reversed S) (prg_1 rfl (fr_range S) (kFld (K := K) rfl (pv 0) rfl))) (pg_name (i := 1) sc_Reading_read_planes.nd rfl (Or.inl rfl)) (pss_cons (ps_set (i := 2) sc_Reading_read_planes.nd rfl (Or.inl rfl) (kFld (K := K) rfl (pv 0) rfl))
    (pss_one (ps_if (PW.pt (pw_or (pt_not (pt_val (pe_mt (pv 0) (cls_Reading S) (me_Reading_read_plane S) (ok_Reading_read_plane S) (hr.mono (by decide)) (pa_cons (pv 1) pa_nil)))) (pw_or1 (pt_not (pt_val (pe_mt (pv 0) (cls_Reading S) (me_Reading_read_check S) (ok_Reading_read_check S) (hr.mono (by decide)) (pa_cons (pv 2) pa_nil))))))) (pss_one (ps_ret pe_bl)) pss_nil))))
    (pss_cons (ps_if (pt_cmpR op_lt (kFld (K := K) rfl (pv 0) rfl) (pe_callB (kLen (K := K) rfl) rfl (fr_len S) bt_len (pa_cons (kFld (K := K) rfl (pv 0) rfl) pa_nil)) (nomark _)) (pss_one ps_never) pss_nil)
    (pss_one (ps_ret pe_bl)))), ?_⟩
  have hm := R.k.m
  tm_at "go"
  refine gFldE R.ins (cls_Reading S) (na_Reading_powers S) rfl ?_
  refine ⟨_, rfl, by omega, by omega, by omega, by omega, ?_⟩
  refine forIt wRv0 (fun i σ H' => Kept (rdT c) H H' ∧ RdS K c H' (c.hd.length + (bodyT c.m c.ns i).length) (fun _ => c.m - i) ∧ ∃ v1 v2, σ = [some (.ref c.p), v1, v2]) ⟨Kept.refl _ _, R, none, none, rfl⟩ (fun _ _ _ _ _ => trivial) ?_ ?_
  · rintro i x σ H1 H2 hi ⟨k1, R1, v1, v2, rfl⟩ ⟨rfl, rfl⟩
    tm_at "go"
    refine gFldE R1.ins (cls_Reading S) (na_Reading_cursor S) rfl ?_
    tm_at "go"
    refine gMeE R1.ins rfl ?_
    tm_at "go"
    refine ⟨c, i, rfl, hi, R1, fun r cu q1 H3 k3 R3 q1m q1r => ?_⟩
    tm_at "go"
    cases r with
    | false =>
      tm_at "go"
      exact q false _ _ _ (k1.trans k3) R3 q1m
    | true =>
      obtain ⟨e1, e2⟩ := q1r rfl
      tm_at "go"
      refine gMeE R3.ins rfl ?_
      tm_at "go"
      refine ⟨c, i, cu, _, _, _, rfl, hi, R3, e1, fun r cu2 H4 k4 R4 r4 => ?_⟩
      tm_at "go"
      cases r with
      | false =>
        tm_at "go"
        exact q false _ _ _ ((k1.trans k3).trans k4) R4 q1m
      | true =>
        tm_at "go"
        rw [r4 rfl] at R4
        refine ⟨(k1.trans k3).trans k4, R4.congr (fun k hk => ?_) (fun k hk => ?_) (fun k hk => ?_), _, _, rfl⟩
        · dsimp only; rw [e2 k hk, show c.m - 1 - i = c.m - (i + 1) by omega]
        · dsimp only; rw [e2 k hk, show c.m - 1 - i = c.m - (i + 1) by omega]
        · dsimp only; rw [e2 k hk, show c.m - 1 - i = c.m - (i + 1) by omega]
  · rintro σ H1 ⟨k1, R1, v1, v2, rfl⟩
    have h1 := R1.k.pre.length_le
    rw [List.length_append] at h1
    have h2 := R1.k.tx
    tm_at "go"
    refine gFldE R1.ins (cls_Reading S) (na_Reading_cursor S) rfl ?_
    tm_at "go"
    refine gFldE R1.ins (cls_Reading S) (na_Reading_told_signs S) rfl ?_
    tm_at "go"
    refine ⟨_, c.tx.length, rfl, ⟨by rw [T_len]; exact line_le (by omega), by rw [T_len]⟩, ?_⟩
    tm_at "go"
    refine gIfF (decide_eq_false (by omega)) ?_
    tm_at "go"
    exact q true _ _ _ k1 R1 fun j => by omega
/-- a reading, read -/
def fRe (c : RdC) (cu : Nat) (e : Bool) : List (Str × V) := fR c cu ++ [(("ended" : Str), V.bl e)]
structure ReadAt (K : PySem.W.Frag) (H : Hp) (p : Addr) (h w : Nat) (r : Rl) (ws : List L) (g : G2) : Prop where
  at_ : ∃ (c : RdC) (cu : Nat) (e : Bool) (q : Nat → Nat) (to : Nat → Addr), c.p = p ∧ H p = some (.ins (He.ga K "Reading") c.dx (fRe c cu e)) ∧ PlanAt K H c.d h w r ws ∧ LOf H c.o to (orderM (h, w) ws) cT ∧
    H c.a = some (.lst (tab (h * w) fun j => .int (amt (q j) (c.n j) : Int))) ∧ H c.b = some (.lst (tab (h * w) fun j => .bl (mns (q j) (c.n j)))) ∧ H c.l = some (.lst (tab (h * w) fun j => .int (q j : Int))) ∧
    c.ns = (orderM (h, w) ws).map (fun x => g x.1 x.2) ∧ ∀ j, q j ≤ 30
theorem ReadAt.same {H H' : Hp} {p : Addr} {h n : Nat} {r : Rl} {ws : List L} {g : G2} (x : ReadAt K H p h n r ws g) (s : Same H H') : ReadAt K H' p h n r ws g := by
  obtain ⟨c, cu, e, q, to, e1, e2, e3, e4, e5, e6, e7, e8, e9⟩ := x.at_
  exact ⟨c, cu, e, q, to, e1, s _ _ e2, e3.same s, e4.same s, s _ _ e5, s _ _ e6, s _ _ e7, e8, e9⟩
/-- two of its lists are none of N -/
def ReadN (K : PySem.W.Frag) (H : Hp) (p : Addr) (N : Addr → Prop) : Prop := ∃ (c : RdC) (cu : Nat) (e : Bool), c.p = p ∧ H p = some (.ins (He.ga K "Reading") c.dx (fRe c cu e)) ∧ ¬ N c.a ∧ ¬ N c.l
def p_Reading_init (K : PySem.W.Frag) : Pm := fun vs H Q => ∃ (p dx d : Addr) (tx hd : List Nat) (m h w : Nat) (r : Rl) (ws : List L) (g : G2), vs = [.ref p, .str (T tx), .ref d, .int (m : Nat), .int (hd.length : Nat)] ∧ H p = some (.ins (He.ga K "Reading") dx []) ∧ (∀ H', Kept (· = p) H H' → PlanAt K H' d h w r ws) ∧ m ≤ 30 ∧ tx.length ≤ 50000 ∧
  (∀ y x, y < h → x < w → (g y x).natAbs < 2 ^ m) ∧ hd <+: tx ∧ tx <+: (hd ++ bodyT m ((orderM (h, w) ws).map fun x => g x.1 x.2) m) ∧
  ∀ H', Kept (· = p) H H' → ReadAt K H' p h w r ws g → ReadN K H' p (fun b => H b ≠ none) → Q .non H'
theorem stF {H H1 H2 : Hp} {p : Addr} {o : HO} (hg : upd H1 p o = H2) (k : Kept (· = p) H H1) : H2 p = some o ∧ Kept (· = p) H H2 ∧ ∀ b, b ≠ p → H2 b = H1 b :=
  ⟨by rw [← hg, upd_same], by rw [← hg]; exact k.mut rfl, fun b n => by rw [← hg, upd_ne n]⟩
theorem ok_Reading_init (S : TX K mg) : OkF P w K mg base 4 (He.ma K (He.ga K "Reading") "__init__") (p_Reading_init K) := by
  refine okF (F_Reading_init S) sc_Reading_init (by tm_at "len") (fun _ _ _ _ _ _ us hl => match us, hl with | [_, _, _, _, _], _ => rfl) (fun cdv A outer s H vs Q E hr h => ?_)
  obtain ⟨p, dx, d, tx, hd, m, h, n, r, ws, g, rfl, hp, hP, m30, tl5, hg, hdp, pre, q⟩ := h
  refine ⟨_, (pss_cons (kSFld (K := K) rfl (pv 0) (pv 1) rfl)
    (pss_cons (kSFld (K := K) rfl (pv 0) (pv 2) rfl)
    (pss_cons (kSFld (K := K) rfl (pv 0) (pv 3) rfl)
    (pss_cons (kSFld (K := K) rfl (pv 0) (pv 4) rfl)
    (pss_cons (kSFld (K := K) rfl (pv 0) (pe_mt0 (pv 2) (cls_Plan S) (me_Plan_order S) (ok_Plan_order S) (hr.mono (by decide))) rfl)
    (pss_cons (kSFld (K := K) rfl (pv 0) (pe_op op_rep (pe_lst (pa_cons pe_int pa_nil)) (pe_callB (kLen (K := K) rfl) rfl (fr_len S) bt_len (pa_cons (kFld (K := K) rfl (pv 0) rfl) pa_nil))) rfl)
    (pss_cons (kSFld (K := K) rfl (pv 0) (pe_op op_rep (pe_lst (pa_cons pe_bl pa_nil)) (pe_callB (kLen (K := K) rfl) rfl (fr_len S) bt_len (pa_cons (kFld (K := K) rfl (pv 0) rfl) pa_nil))) rfl)
    (pss_cons (kSFld (K := K) rfl (pv 0) (pe_op op_rep (pe_lst (pa_cons (pv 3) pa_nil)) (pe_callB (kLen (K := K) rfl) rfl (fr_len S) bt_len (pa_cons (kFld (K := K) rfl (pv 0) rfl) pa_nil))) rfl)
    (pss_one (kSFld (K := K) rfl (pv 0) (pe_mt0 (pv 0) (cls_Reading S) (me_Reading_read_planes S) (ok_Reading_read_planes S) (hr.mono (by decide))) rfl)))))))))), ?_⟩
  have rep : ∀ {x : V} {H1 : Hp} {R : VK} {e : Addr}, H1 e = some (.lst [x]) → (∀ l, H1 l = none → R (.ref l) (upd H1 l (.lst (tab (h * n) fun _ => x)))) → rRep (.ref e) (.int ((h * n : Nat) : Int)) H1 R := fun {x H1 R e} he hr => by
    have z := (hP H (Kept.refl _ _)).sz.hw
    refine ⟨e, _, _, rfl, rfl, he, by omega, by omega, by rw [Int.toNat_natCast]; exact line_le (by show 1 * (h * n) ≤ _; omega), fun l hl => ?_⟩
    rw [Int.toNat_natCast, tab_flat]
    exact hr l hl
  refine gSeq ?_
  refine gSFld ?_
  tm_at "gi"
  refine ⟨p, _, dx, _, rfl, hp, cls_Reading S, na_Reading_told_signs S, flL rfl, ?_⟩
  generalize hg1 : upd _ _ _ = H1
  obtain ⟨p1, k1, n1⟩ := stF hg1 (Kept.refl (· = p) H)
  refine gSeq ?_
  refine gSFld ?_
  tm_at "gi"
  refine ⟨p, _, dx, _, rfl, p1, cls_Reading S, na_Reading_design S, flL rfl, ?_⟩
  generalize hg2 : upd _ _ _ = H2
  obtain ⟨p2, k2, n2⟩ := stF hg2 k1
  refine gSeq ?_
  refine gSFld ?_
  tm_at "gi"
  refine ⟨p, _, dx, _, rfl, p2, cls_Reading S, na_Reading_powers S, flL rfl, ?_⟩
  generalize hg3 : upd _ _ _ = H3
  obtain ⟨p3, k3, n3⟩ := stF hg3 k2
  refine gSeq ?_
  refine gSFld ?_
  tm_at "gi"
  refine ⟨p, _, dx, _, rfl, p3, cls_Reading S, na_Reading_cursor S, flL rfl, ?_⟩
  generalize hg4 : upd _ _ _ = H4
  obtain ⟨p4, k4, n4⟩ := stF hg4 k3
  have Pl4 := hP H4 k4
  obtain ⟨⟨dxp, ru, ca, tc, hpp, hrr, cc⟩, z, ok⟩ := hP H4 k4
  refine gSeq ?_
  refine gSFld ?_
  tm_at "gi"
  refine gMeE hpp rfl ?_
  tm_at "gi"
  refine ⟨d, h, n, r, ws, rfl, Pl4, fun D H5 ta s5 nD lo => ?_⟩
  tm_at "gi"
  refine ⟨p, _, dx, _, rfl, s5 _ _ p4, cls_Reading S, na_Reading_ordered S, flL rfl, ?_⟩
  generalize hg6 : upd _ _ _ = H6
  obtain ⟨p6, k6, n6⟩ := stF hg6 (k4.trans (Kept.of s5))
  have pD : D ≠ p := fun e => by rw [e, p4] at nD; cases nD
  have lo6 : LOf H6 D ta (orderM (h, n) ws) cT := ⟨by rw [n6 _ pD]; exact lo.top, fun i x e => by
    rw [n6 _ fun e2 => by have e3 := lo.it i x e; rw [e2, s5 _ _ p4] at e3; cases e3]
    exact lo.it i x e⟩
  have lenO : (orderM (h, n) ws).length = h * n := order_len
  refine gSeq ?_
  refine gSFld ?_
  tm_at "go"
  refine ⟨szL rfl, fun e1 he1 => ?_⟩
  generalize hg7 : upd _ _ _ = H7
  obtain ⟨s7, f7⟩ := newF hg7 he1
  tm_at "go"
  refine gFldE (s7 _ _ p6) (cls_Reading S) (na_Reading_ordered S) rfl ?_
  tm_at "go"
  refine ⟨_, h * n, rfl, .inl ⟨_, SqL.of (lo6.same s7).top, by rw [tab_len, lenO]⟩, ?_⟩
  refine rep f7 fun A hA => ?_
  generalize hg8 : upd _ _ _ = H8
  obtain ⟨s8, f8⟩ := newF hg8 hA
  have s68 := s7.trans s8
  tm_at "go"
  refine ⟨p, _, dx, _, rfl, s68 _ _ p6, cls_Reading S, na_Reading_amounts S, flL rfl, ?_⟩
  generalize hg9 : upd _ _ _ = H9
  obtain ⟨p9, k9, n9⟩ := stF hg9 (k6.trans (Kept.of s68))
  have pA : A ≠ p := fun e => by rw [e, s7 _ _ p6] at hA; cases hA
  have pD6 : H9 D = some (.lst (tab (orderM (h, n) ws).length fun i => .ref (ta i))) := by rw [n9 _ pD]; exact s68 _ _ lo6.top
  have A9 : H9 A = some (.lst (tab (h * n) fun _ => .int 0)) := by rw [n9 _ pA]; exact f8
  refine gSeq ?_
  refine gSFld ?_
  tm_at "go"
  refine ⟨szL rfl, fun e2 he2 => ?_⟩
  generalize hg10 : upd _ _ _ = H10
  obtain ⟨s10, f10⟩ := newF hg10 he2
  tm_at "go"
  refine gFldE (s10 _ _ p9) (cls_Reading S) (na_Reading_ordered S) rfl ?_
  tm_at "go"
  refine ⟨_, h * n, rfl, .inl ⟨_, SqL.of (s10 _ _ pD6), by rw [tab_len, lenO]⟩, ?_⟩
  refine rep f10 fun B hB => ?_
  generalize hg11 : upd _ _ _ = H11
  obtain ⟨s11, f11⟩ := newF hg11 hB
  have s911 := s10.trans s11
  tm_at "go"
  refine ⟨p, _, dx, _, rfl, s911 _ _ p9, cls_Reading S, na_Reading_minus S, flL rfl, ?_⟩
  generalize hg12 : upd _ _ _ = H12
  obtain ⟨p12, k12, n12⟩ := stF hg12 (k9.trans (Kept.of s911))
  have pB : B ≠ p := fun e => by rw [e, s10 _ _ p9] at hB; cases hB
  have BA : B ≠ A := fun e => by rw [e, s10 _ _ A9] at hB; cases hB
  have BD : B ≠ D := fun e => by rw [e, s10 _ _ pD6] at hB; cases hB
  have D12 : H12 D = some (.lst (tab (orderM (h, n) ws).length fun i => .ref (ta i))) := by rw [n12 _ pD]; exact s911 _ _ pD6
  have A12 : H12 A = some (.lst (tab (h * n) fun _ => .int 0)) := by rw [n12 _ pA]; exact s911 _ _ A9
  have B12 : H12 B = some (.lst (tab (h * n) fun _ => .bl false)) := by rw [n12 _ pB]; exact f11
  refine gSeq ?_
  refine gSFld ?_
  tm_at "go"
  refine ⟨szL rfl, fun e3 he3 => ?_⟩
  generalize hg13 : upd _ _ _ = H13
  obtain ⟨s13, f13⟩ := newF hg13 he3
  tm_at "go"
  refine gFldE (s13 _ _ p12) (cls_Reading S) (na_Reading_ordered S) rfl ?_
  tm_at "go"
  refine ⟨_, h * n, rfl, .inl ⟨_, SqL.of (s13 _ _ D12), by rw [tab_len, lenO]⟩, ?_⟩
  refine rep f13 fun L hL => ?_
  generalize hg14 : upd _ _ _ = H14
  obtain ⟨s14, f14⟩ := newF hg14 hL
  have s1214 := s13.trans s14
  tm_at "go"
  refine ⟨p, _, dx, _, rfl, s1214 _ _ p12, cls_Reading S, na_Reading_lacking S, flL rfl, ?_⟩
  generalize hg15 : upd _ _ _ = H15
  obtain ⟨p15, k15, n15⟩ := stF hg15 (k12.trans (Kept.of s1214))
  have pL : L ≠ p := fun e => by rw [e, s13 _ _ p12] at hL; cases hL
  have LA : L ≠ A := fun e => by rw [e, s13 _ _ A12] at hL; cases hL
  have LB : L ≠ B := fun e => by rw [e, s13 _ _ B12] at hL; cases hL
  have LD : L ≠ D := fun e => by rw [e, s13 _ _ D12] at hL; cases hL
  have AD : A ≠ D := fun e => by rw [e, s7 _ _ lo6.top] at hA; cases hA
  have D15 : H15 D = some (.lst (tab (orderM (h, n) ws).length fun i => .ref (ta i))) := by rw [n15 _ pD]; exact s1214 _ _ D12
  have A15 : H15 A = some (.lst (tab (h * n) fun _ => .int 0)) := by rw [n15 _ pA]; exact s1214 _ _ A12
  have B15 : H15 B = some (.lst (tab (h * n) fun _ => .bl false)) := by rw [n15 _ pB]; exact s1214 _ _ B12
  have L15 : H15 L = some (.lst (tab (h * n) fun _ => .int (m : Nat))) := by rw [n15 _ pL]; exact f14
  generalize hns : (orderM (h, n) ws).map (fun x => g x.1 x.2) = ns at *
  have nl : ns.length = h * n := by rw [← hns, List.length_map, lenO]
  have nsm : ∀ j, (ns.getD j 0).natAbs < 2 ^ m := fun j => by
    rw [List.getD_eq_getElem?_getD]
    cases e : ns[j]? with
    | none => exact Nat.two_pow_pos m
    | some x =>
      rw [← hns] at e
      obtain ⟨y, hy, rfl⟩ := List.mem_map.mp (List.mem_of_getElem? e)
      obtain ⟨y1, y2⟩ := order_mem.mp hy
      exact hg _ _ y1 y2
  have hw := z.hw
  have R : RdS K ⟨p, dx, d, D, A, B, L, tx, hd, m, ns⟩ H15 hd.length fun _ => m := by
    refine ⟨⟨pre, tl5, m30, by show ns.length ≤ 512; omega, pA, pB, pL, BA, LA, LB⟩, p15, ⟨_, D15, by rw [tab_len, lenO]; exact nl.symm⟩, ?_, ?_, ?_, ?_, hdp.length_le⟩
    · rintro (e | e | e | e)
      · exact pD e
      · exact AD e.symm
      · exact BD e.symm
      · exact LD e.symm
    · show H15 A = _
      rw [A15]
      show some (HO.lst (tab (h * n) _)) = some (HO.lst (tab ns.length _))
      rw [nl]
      refine congrArg (fun l => some (HO.lst l)) (tab_congr fun i _ => ?_)
      show V.int 0 = V.int (amt m (ns.getD i 0) : Int)
      rw [amt_top (nsm i)]
      rfl
    · show H15 B = _
      rw [B15]
      show some (HO.lst (tab (h * n) _)) = some (HO.lst (tab ns.length _))
      rw [nl]
      refine congrArg (fun l => some (HO.lst l)) (tab_congr fun i _ => ?_)
      show V.bl false = V.bl (mns m (ns.getD i 0))
      unfold mns
      rw [amt_top (nsm i)]
      simp
    · show H15 L = _
      rw [L15]
      show some (HO.lst (tab (h * n) _)) = some (HO.lst (tab ns.length _))
      rw [nl]
  refine gSFld ?_
  tm_at "gi"
  refine gMeE p15 rfl ?_
  tm_at "gi"
  refine ⟨_, rfl, R, fun r0 cu q' H16 k16 R16 hq' => ?_⟩
  tm_at "gi"
  refine ⟨p, _, dx, _, rfl, R16.ins, cls_Reading S, na_Reading_ended S, flL rfl, ?_⟩
  generalize hg17 : upd _ _ _ = H17
  have kk6 : ∀ b o, H6 b = some o → b ≠ p → H16 b = some o := fun b o e nb => by
    have e9 : H9 b = some o := by rw [n9 _ nb]; exact s68 _ _ e
    have e12 : H12 b = some o := by rw [n12 _ nb]; exact s911 _ _ e9
    have e15 : H15 b = some o := by rw [n15 _ nb]; exact s1214 _ _ e12
    refine k16 b o e15 fun t => ?_
    rcases t with e2 | e2 | e2 | e2
    · exact nb e2
    · have e2 : b = A := e2
      rw [e2] at e
      rw [s7 _ _ e] at hA
      cases hA
    · have e2 : b = B := e2
      rw [e2] at e9
      rw [s10 _ _ e9] at hB
      cases hB
    · have e2 : b = L := e2
      rw [e2] at e12
      rw [s13 _ _ e12] at hL
      cases hL
  have kk : Kept (· = p) H H16 := fun b o e nb => kk6 b o (k6 b o e nb) nb
  obtain ⟨p17, k17, n17⟩ := stF hg17 kk
  refine q H17 k17 ⟨⟨p, dx, d, D, A, B, L, tx, hd, m, ns⟩, cu, r0, q', ta, rfl, p17, hP _ k17, ⟨?_, fun i x e => ?_⟩, ?_, ?_, ?_, hns.symm, fun j => Nat.le_trans (hq' j) m30⟩ ⟨⟨p, dx, d, D, A, B, L, tx, hd, m, ns⟩, cu, r0, rfl, p17, fun nA => ?_, fun nL => ?_⟩
  · show H17 D = _
    rw [n17 _ pD]
    exact kk6 _ _ lo6.top pD
  · have et := lo6.it i x e
    have np : ta i ≠ p := fun e2 => by rw [e2, p6] at et; cases et
    rw [n17 _ np]
    exact kk6 _ _ et np
  · show H17 A = _
    rw [n17 _ pA, ← nl]
    exact R16.am
  · show H17 B = _
    rw [n17 _ pB, ← nl]
    exact R16.mi
  · show H17 L = _
    rw [n17 _ pL, ← nl]
    exact R16.la
  · cases e : H A with
    | none => exact nA e
    | some o =>
      rw [s7 _ _ (k6 _ _ e pA)] at hA
      cases hA
  · cases e : H L with
    | none => exact nL e
    | some o =>
      rw [s13 _ _ (k12 _ _ e pL)] at hL
      cases hL
end
end Kp
/-! the law's own helpers: the box, a drawn digit, shapes, ways, rows -/
namespace Kp
open PySem PySem.Spec PyProof.Rows L2
/-- a text once or not at all -/
def rRepS : R2 := fun x y H Q => ∃ z k, x = .str z ∧ y = .int k ∧ (k = 0 ∨ k = 1) ∧ z.length ≤ 1000 ∧ Q (.str (if k = 0 then Str.empty else z)) H
theorem op_repS {X : Cx} : OpR X (binaryOp .Mult) rRepS := by
  intro pins s σ H x y v u Q I rx ry h
  obtain ⟨z, k, rfl, rfl, hk, hz, q⟩ := h
  obtain ⟨t, rfl⟩ := rx
  obtain ⟨t', rfl⟩ := ry
  rcases hk with rfl | rfl
  · exact PySem.P.mul_str_none (by decide) (by decide) ⟨.str Str.empty, H, I.tok _, ⟨_, rfl⟩, q⟩
  · refine PySem.P.mul_str (by decide) (fun _ z => by cases z) (fun _ z => by cases z) ?_
    exact ⟨.str z, H, I, ⟨_, rfl⟩, q⟩
/-- the box: what is left of the number, the seed, how many were drawn -/
def BoxAt (H : Hp) (a : Addr) (n : Nat) : Prop := ∃ b0 b1 c : Int, H a = some (.lst [.int b0, .int b1, .int c]) ∧ 0 ≤ b0 ∧ 0 ≤ b1 ∧ b1 < 2147483647 ∧ 0 ≤ c ∧ c ≤ n
theorem BoxAt.mono {H : Hp} {a : Addr} {m n : Nat} (b : BoxAt H a m) (h : m ≤ n) : BoxAt H a n := let ⟨b0, b1, c, e, h1, h2, h3, h4, h5⟩ := b; ⟨b0, b1, c, e, h1, h2, h3, h4, by omega⟩
theorem BoxAt.same {H H' : Hp} {a : Addr} {n : Nat} (b : BoxAt H a n) (s : Same H H') : BoxAt H' a n := let ⟨b0, b1, c, e, h⟩ := b; ⟨b0, b1, c, s _ _ e, h⟩
def p_law_cell (K : PySem.W.Frag) : Pm := fun vs H Q => ∃ (a : Addr) (ns : List Int) (k : Nat), vs = [.ref a, .int (k : Nat)] ∧ SqL K H a (ns.map V.int) ∧ k ≤ 1000 ∧ ∀ z : Int, Q (.int z) H
def p_law_box : Pm := fun vs H Q => ∃ z : Int, vs = [.int z] ∧ ∀ D H', H D = none → Same H H' → BoxAt H' D 0 → Q (.ref D) H'
def p_law_take : Pm := fun vs H Q => ∃ (a : Addr) (n many : Nat), vs = [.ref a, .int (many : Nat)] ∧ BoxAt H a n ∧ n ≤ 1000 ∧ 0 < many ∧ many < 1000000000 ∧ ∀ (d : Nat) H', d < many → Kept (· = a) H H' → BoxAt H' a (n + 1) → Q (.int (d : Nat)) H'
section
variable {P : Program} {w : World} {K : PySem.W.Frag} {mg : Str → Option Value} {base : Heap}
theorem ok_law_cell (S : TX K mg) : OkF P w K mg base 1 (He.ga K "_law_cell") (p_law_cell K) := by
  refine okF (F_law_cell S) sc_law_cell (by tm_at "len") (fun _ _ _ _ _ _ us hl => match us, hl with | [_, _], _ => rfl) (fun cdv A outer s H vs Q E hr h => ?_)
  obtain ⟨a, ns, k, rfl, ha, hk, q⟩ := h
  refine ⟨_, (pss_cons (ps_if (pt_cmpR op_lt (pv 1) (pe_callB (kLen (K := K) rfl) rfl (fr_len S) bt_len (pa_cons (pv 0) pa_nil)) (nomark _)) (pss_one (ps_ret (pe_ix (kIxL (K := K) rfl) (pv 0) (pv 1) (fun _ _ => rfl)))) pss_nil)
    (pss_one (ps_ret (pe_op op_add (pe_op op_mul pe_int (pv 1)) pe_int)))), ?_⟩
  tm_at "go"
  refine ⟨_, ns.length, rfl, .inl ⟨_, ha, by rw [List.length_map]⟩, ?_⟩
  tm_at "go"
  by_cases hl : k < ns.length
  · refine gIfT (decide_eq_true (by omega)) ?_
    tm_at "go"
    refine gIxL ha (v := .int ns[k]) (i := (k : Int)) ?_ (q _)
    rw [show ns.map V.int = tab ns.length fun i => V.int (ns.getD i 0) from tab_map, at_tab hl, List.getD_eq_getElem?_getD, List.getElem?_eq_getElem hl]
    rfl
  · refine gIfF (decide_eq_false (by omega)) ?_
    tm_at "go"
    refine gI (.inl ⟨by decide, by decide⟩) ?_
    tm_at "go"
    exact q _
theorem ok_law_box (S : TX K mg) : OkF P w K mg base 1 (He.ga K "_law_box") (p_law_box) := by
  refine okF (F_law_box S) sc_law_box (by tm_at "len") (fun _ _ _ _ _ _ us hl => match us, hl with | [_], _ => rfl) (fun cdv A outer s H vs Q E hr h => ?_)
  obtain ⟨z, rfl, q⟩ := h
  refine ⟨_, (pss_one (ps_ret (pe_lst (pa_cons (pe_callB (call_max2 rfl) rfl (fr_max S) bt_max (pa_cons pe_int (pa_cons (pe_op op_sub (pv 0) (pe_op op_pow pe_int pe_int)) pa_nil))) (pa_cons (pe_op op_mod (pv 0) pe_int) (pa_cons pe_int pa_nil)))))), ?_⟩
  tm_at "go"
  refine gI ⟨by decide, by decide, by decide⟩ ?_
  tm_at "go"
  refine ⟨_, _, rfl, ?_⟩
  tm_at "go"
  refine gI (by decide) ?_
  tm_at "go"
  refine ⟨szL rfl, fun D hD => q D _ hD (Same.new hD) ⟨_, _, 0, upd_same, ?_, ?_, ?_, by decide, by decide⟩⟩
  · split <;> omega
  · exact Int.emod_nonneg _ (by decide)
  · exact Int.emod_lt_of_pos _ (by decide)
theorem ok_law_take (S : TX K mg) : OkF P w K mg base 1 (He.ga K "_law_take") (p_law_take) := by
  refine okF (F_law_take S) sc_law_take (by tm_at "len") (fun _ _ _ _ _ _ us hl => match us, hl with | [_, _], _ => rfl) (fun cdv A outer s H vs Q E hr h => ?_)
  obtain ⟨a, n, many, rfl, ⟨b0, b1, c, e, h1, h2, h3, h4, h5⟩, hn, hm, hm2, q⟩ := h
  refine ⟨_, (pss_cons (ps_if (pt_cmpR op_gt (pe_ix (kIxL (K := K) rfl) (pv 0) pe_int (fun _ _ => rfl)) pe_int (nomark _)) (pss_cons (ps_set (i := 2) sc_law_take.nd rfl (Or.inl rfl) (pe_op op_mod (pe_ix (kIxL (K := K) rfl) (pv 0) pe_int (fun _ _ => rfl)) (pv 1)))
    (pss_cons (ps_asg (pe_op op_fdiv (pe_ix (kIxL (K := K) rfl) (pv 0) pe_int (fun _ _ => rfl)) (pv 1)) (pg_sub (pv 0) pe_int set_list))
    (pss_one (ps_ret (pv 2))))) pss_nil)
    (pss_cons (ps_asg (pe_op op_add (pe_ix (kIxL (K := K) rfl) (pv 0) pe_int (fun _ _ => rfl)) pe_int) (pg_sub (pv 0) pe_int set_list))
    (pss_cons (ps_set (i := 3) sc_law_take.nd rfl (Or.inl rfl) (pe_op op_add (pe_op op_add (pe_op op_mul (pe_ix (kIxL (K := K) rfl) (pv 0) pe_int (fun _ _ => rfl)) (pe_op op_add pe_int (pe_op op_mul pe_int (pe_ix (kIxL (K := K) rfl) (pv 0) pe_int (fun _ _ => rfl))))) (pe_op op_mul pe_int (pe_ix (kIxL (K := K) rfl) (pv 0) pe_int (fun _ _ => rfl)))) pe_int))
    (pss_cons (ps_set (i := 4) sc_law_take.nd rfl (Or.inl rfl) (pe_op op_mod (pe_op op_pow (pv 3) pe_int) pe_int))
    (pss_cons (ps_set (i := 4) sc_law_take.nd rfl (Or.inl rfl) (pe_op op_mod (pe_op op_mul (pe_op op_add (pv 4) (pe_op op_mul pe_int (pe_ix (kIxL (K := K) rfl) (pv 0) pe_int (fun _ _ => rfl)))) (pe_op op_add (pv 4) pe_int)) pe_int))
    (pss_one (ps_ret (pe_op op_mod (pe_op op_fdiv (pv 4) pe_int) (pv 1))))))))), ?_⟩
  tm_at "go"
  refine gIxL (SqL.of e) (i := 0) rfl ?_
  tm_at "go"
  by_cases hb : b0 > 0
  · refine gIfT (decide_eq_true hb) ?_
    tm_at "go"
    refine gIxL (SqL.of e) (i := 0) rfl ?_
    tm_at "go"
    refine gI (by show (0 : Int) < (many : Int); omega) ?_
    tm_at "go"
    refine gIxL (SqL.of e) (i := 0) rfl ?_
    tm_at "go"
    refine gI ⟨by omega, by omega⟩ ?_
    tm_at "go"
    refine ⟨a, _, _, 0, rfl, rfl, e, rfl, ?_⟩
    tm_at "go"
    obtain ⟨d, ed⟩ := Int.eq_ofNat_of_zero_le (Int.emod_nonneg b0 (show (many : Int) ≠ 0 by omega))
    have dl := Int.emod_lt_of_pos b0 (show (0 : Int) < (many : Int) by omega)
    rw [ed]
    exact q d _ (by omega) ((Kept.refl _ _).mut rfl) ⟨b0 / (many : Int), b1, c, upd_same, Int.ediv_nonneg h1 (by omega), h2, h3, h4, by omega⟩
  · refine gIfF (decide_eq_false hb) ?_
    tm_at "go"
    refine gIxL (SqL.of e) (i := 2) rfl ?_
    tm_at "go"
    refine ⟨a, _, _, 2, rfl, rfl, e, rfl, ?_⟩
    have e2 : upd H a (.lst ([V.int b0, V.int b1, V.int c].set 2 (.int (c + 1)))) a = some (.lst [V.int b0, V.int b1, V.int (c + 1)]) := upd_same
    generalize hg : upd _ _ _ = H2 at *
    have kk : Kept (· = a) H H2 := by rw [← hg]; exact (Kept.refl _ _).mut rfl
    tm_at "go"
    refine gIxL (SqL.of e2) (i := 1) rfl ?_
    tm_at "go"
    refine gIxL (SqL.of e2) (i := 2) rfl ?_
    tm_at "go"
    refine gI (.inl ⟨by omega, by omega⟩) ?_
    tm_at "go"
    refine gIxL (SqL.of e2) (i := 2) rfl ?_
    tm_at "go"
    refine gI (.inl ⟨by omega, by omega⟩) ?_
    tm_at "go"
    have f1 : (0 : Int) ≤ b1 * (48271 + 2 * (c + 1)) := Int.mul_nonneg h2 (by omega)
    have f2 : b1 * (48271 + 2 * (c + 1)) ≤ 2147483647 * 60000 := Int.mul_le_mul (by omega) (by omega) (by omega) (by omega)
    refine gI ⟨by decide, by decide, by omega⟩ ?_
    tm_at "go"
    refine gI (by decide) ?_
    tm_at "go"
    generalize hx : (_ : Int) % 2147483629 = x
    have x1 : 0 ≤ x := by rw [← hx]; exact Int.emod_nonneg _ (by decide)
    have x2 : x < 2147483629 := by rw [← hx]; exact Int.emod_lt_of_pos _ (by decide)
    refine gIxL (SqL.of e2) (i := 2) rfl ?_
    tm_at "go"
    refine gI (.inl ⟨by omega, by omega⟩) ?_
    tm_at "go"
    refine gI (.inl ⟨by omega, by omega⟩) ?_
    tm_at "go"
    refine gI (by decide) ?_
    tm_at "go"
    refine gI ⟨by decide, by decide⟩ ?_
    tm_at "go"
    generalize hy : (_ : Int) / 8 = y
    refine gI (by show (0 : Int) < (many : Int); omega) ?_
    obtain ⟨d, ed⟩ := Int.eq_ofNat_of_zero_le (Int.emod_nonneg y (show (many : Int) ≠ 0 by omega))
    have dl := Int.emod_lt_of_pos y (show (0 : Int) < (many : Int) by omega)
    rw [ed]
    exact q d _ (by omega) kk ⟨b0, b1, c + 1, e2, h1, h2, h3, by omega, by omega⟩
end
end Kp
/-! plain: on which places of a row the halved and the put back numbers hang -/
namespace Kp
theorem mem_flt {p : Int → Bool} {lo k : Int} : ∀ {m : Nat}, p k = true → lo ≤ k → k < lo + (m : Int) → k ∈ flt p lo m
  | 0, _, h1, h2 => by omega
  | m + 1, h, h1, h2 => by
    unfold flt
    by_cases e : k = lo + (m : Int)
    · subst e
      rw [if_pos h]
      exact List.mem_append.mpr (.inr (List.mem_singleton.mpr rfl))
    · have ih := mem_flt (p := p) (lo := lo) (m := m) h h1 (by omega)
      split
      · exact List.mem_append.mpr (.inl ih)
      · exact ih
theorem mem_nearS {n : Nat} {a k : Int} (h0 : 0 ≤ k) (h1 : k < ((hf n : Nat) : Int)) (h2 : a - 1 ≤ k) (h3 : k ≤ a + 1) : k ∈ nearS n a :=
  mem_flt (by unfold inH; rw [decide_eq_true h0, decide_eq_true h1]; rfl) h2 (by omega)
theorem mem_nearD {n : Nat} {a k : Int} (h0 : 0 ≤ k) (h1 : k < ((n / 2 : Nat) : Int)) (h2 : k = a - 1 ∨ k = a) : k ∈ nearD n a := by
  have e : inP n k = true := by unfold inP; rw [decide_eq_true h0, decide_eq_true h1]; rfl
  unfold nearD
  rcases h2 with rfl | rfl
  · rw [if_pos e]
    exact List.mem_append.mpr (.inl (List.mem_singleton.mpr rfl))
  · rw [if_pos e]
    exact List.mem_append.mpr (.inr (List.mem_singleton.mpr rfl))
theorem mem_difG {n : Nat} {a k : Int} (h1 : 2 * a ≤ k) (h2 : k < 2 * a + 3) (h3 : k < (n : Int)) : k ∈ difG n a :=
  mem_flt (decide_eq_true h3) h1 (by omega)
/-- agree at the places of a list -/
def Agr (f f' : Nat → Int) (l : List Int) : Prop := ∀ k ∈ l, f k.toNat = f' k.toNat
theorem Agr.at {f f' : Nat → Int} {l : List Int} (h : Agr f f' l) (k : Nat) (m : (k : Int) ∈ l) : f k = f' k := by
  have := h _ m
  rwa [Int.toNat_natCast] at this
theorem Agr.sub {f f' : Nat → Int} {l m : List Int} (h : Agr f f' l) (s : ∀ k ∈ m, k ∈ l) : Agr f f' m := fun k hk => h k (s k hk)
/-- a clamped place -/
theorem nr_at {m : Nat} {g : Nat → Int} {k : Int} {j : Nat} (h : (max 0 (min k ((m : Int) - 1))).toNat = j) : nr m g k = g j := by unfold nr; rw [h]
section
variable {n k : Nat} {f f' : Nat → Int}
theorem nr_congr {m : Nat} {g g' : Nat → Int} {k : Int} (hm : 0 < m) (h : ∀ j, j < m → (j : Int) = max 0 (min k ((m : Int) - 1)) → g j = g' j) : nr m g k = nr m g' k := by
  unfold nr
  exact h _ (by omega) (by omega)
theorem gF_loc (n2 : 2 ≤ n) (hk : k < hf n) (h : Agr f f' (firstG n (k : Int))) : gF n f (fun j => f (hf n + j)) k = gF n f' (fun j => f' (hf n + j)) k := by
  unfold hf at hk
  have h0 : f k = f' k := h.at k (List.mem_append.mpr (.inl (List.mem_singleton.mpr rfl)))
  have hd : ∀ j : Nat, j < n / 2 → ((j : Int) = (k : Int) - 1 ∨ (j : Int) = (k : Int)) → f (hf n + j) = f' (hf n + j) := fun j hj e =>
    h.at _ (List.mem_append.mpr (.inr (List.mem_map.mpr ⟨(j : Int), mem_nearD (by omega) (by omega) e, by omega⟩)))
  have e1 : nr (n / 2) (fun j => f (hf n + j)) ((k : Int) - 1) = nr (n / 2) (fun j => f' (hf n + j)) ((k : Int) - 1) := nr_congr (by omega) fun j hj e => hd j hj (by omega)
  have e2 : nr (n / 2) (fun j => f (hf n + j)) (k : Int) = nr (n / 2) (fun j => f' (hf n + j)) (k : Int) := nr_congr (by omega) fun j hj e => hd j hj (by omega)
  unfold gF
  rw [h0, e1, e2]
theorem sl_loc {s s' : Nat → Int} {N : Nat} (hk : k < N) (h : ∀ j : Nat, j < N → ((k : Int) - 1 ≤ (j : Int) ∧ (j : Int) ≤ (k : Int) + 1) → s j = s' j) : sl N s k = sl N s' k := by
  unfold sl
  congr 2
  · congr 1
    · split
      · exact h _ (by omega) (by omega)
      · exact h _ (by omega) (by omega)
    · split
      · exact h _ (by omega) (by omega)
      · exact h _ (by omega) (by omega)
theorem bkr_loc (r : Rl) (n2 : 2 ≤ n) {x : Nat} (hx : x < n) (h : Agr f f' (backL r n (x : Int))) : bkr r n f x = bkr r n f' x := by
  have hl : ∀ k : Int, k ∈ firstN r n ((x / 2 : Nat) : Int) → k ∈ backL r n (x : Int) := fun k hk => by
    unfold backL
    split
    · rename_i e
      cases r with
      | guess =>
        show k ∈ secondG n ((x : Int) / 2)
        unfold secondG
        rw [show ((x / 2 : Nat) : Int) = (x : Int) / 2 by omega] at hk
        split
        · exact List.mem_append.mpr (.inl (List.mem_append.mpr (.inr hk)))
        · exact List.mem_append.mpr (.inr hk)
      | _ => exact hk
    · exact hk
  have hF := h.sub hl
  have x2 : x / 2 < hf n := by unfold hf; omega
  cases r with
  | sum =>
    unfold bkr bk
    dsimp only
    have h1 : x / 2 < n / 2 → f (x / 2) = f' (x / 2) ∧ f (hf n + x / 2) = f' (hf n + x / 2) := fun q => by
      have e : firstN .sum n ((x / 2 : Nat) : Int) = [((x / 2 : Nat) : Int), ((hf n : Nat) : Int) + ((x / 2 : Nat) : Int)] := by
        show first0 n _ = _
        unfold first0
        rw [if_neg (by omega)]
      rw [e] at hF
      exact ⟨hF.at _ (by simp), hF.at _ (by simp)⟩
    have h2 : ¬ x / 2 < n / 2 → f (n / 2) = f' (n / 2) := fun q => by
      have e : firstN .sum n ((x / 2 : Nat) : Int) = [((x / 2 : Nat) : Int)] := by
        show first0 n _ = _
        unfold first0
        rw [if_pos (by unfold hf at x2; omega)]
      rw [e] at hF
      have e2 : n / 2 = x / 2 := by unfold hf at x2; omega
      rw [e2]
      exact hF.at _ (by simp)
    split
    · rename_i q
      rw [(h1 q).1, (h1 q).2]
    · rename_i q
      rw [h2 q]
  | half =>
    unfold bkr bk hB
    dsimp only
    have h1 : x / 2 < n / 2 → f (x / 2) = f' (x / 2) ∧ f (hf n + x / 2) = f' (hf n + x / 2) := fun q => by
      have e : firstN .half n ((x / 2 : Nat) : Int) = [((x / 2 : Nat) : Int), ((hf n : Nat) : Int) + ((x / 2 : Nat) : Int)] := by
        show first0 n _ = _
        unfold first0
        rw [if_neg (by omega)]
      rw [e] at hF
      exact ⟨hF.at _ (by simp), hF.at _ (by simp)⟩
    have h2 : ¬ x / 2 < n / 2 → f (n / 2) = f' (n / 2) := fun q => by
      have e : firstN .half n ((x / 2 : Nat) : Int) = [((x / 2 : Nat) : Int)] := by
        show first0 n _ = _
        unfold first0
        rw [if_pos (by unfold hf at x2; omega)]
      rw [e] at hF
      have e2 : n / 2 = x / 2 := by unfold hf at x2; omega
      rw [e2]
      exact hF.at _ (by simp)
    split
    · rename_i q
      rw [(h1 q).1, (h1 q).2]
    · rename_i q
      rw [h2 q]
  | lean =>
    unfold bkr bk hB
    dsimp only
    split
    · rename_i q
      have e : firstN .lean n ((x / 2 : Nat) : Int) = nearS n ((x / 2 : Nat) : Int) ++ [((hf n : Nat) : Int) + ((x / 2 : Nat) : Int)] := by
        show firstL n _ = _
        unfold firstL
        rw [if_neg (by omega)]
      rw [e] at hF
      have h0 : ∀ j : Nat, j < hf n → (((x / 2 : Nat) : Int) - 1 ≤ (j : Int) ∧ (j : Int) ≤ ((x / 2 : Nat) : Int) + 1) → f j = f' j := fun j hj z => hF.at j (List.mem_append.mpr (.inl (mem_nearS (by omega) (by omega) z.1 z.2)))
      have hd : f (hf n + x / 2) = f' (hf n + x / 2) := hF.at _ (List.mem_append.mpr (.inr (by simp)))
      rw [sl_loc x2 h0, hd, h0 (x / 2) x2 (by omega)]
    · rename_i q
      have e : firstN .lean n ((x / 2 : Nat) : Int) = [((x / 2 : Nat) : Int)] := by
        show firstL n _ = _
        unfold firstL
        rw [if_pos (by unfold hf at x2; omega)]
      rw [e] at hF
      have e2 : n / 2 = x / 2 := by unfold hf at x2; omega
      rw [e2]
      exact hF.at _ (by simp)
  | guess =>
    unfold bkr bk
    dsimp only
    have g0 : gF n f (fun j => f (hf n + j)) (x / 2) = gF n f' (fun j => f' (hf n + j)) (x / 2) := gF_loc n2 x2 hF
    split
    · exact g0
    · rename_i q
      have e : backL .guess n (x : Int) = secondG n ((x / 2 : Nat) : Int) := by
        unfold backL
        rw [if_pos (by omega), show (x : Int) / 2 = ((x / 2 : Nat) : Int) by omega]
        rfl
      rw [e] at h
      have hd : f (hf n + x / 2) = f' (hf n + x / 2) := h.at _ (by
        unfold secondG
        split <;> simp)
      have g1 : nr (hf n) (gF n f fun j => f (hf n + j)) (((x / 2 : Nat) : Int) + 1) = nr (hf n) (gF n f' fun j => f' (hf n + j)) (((x / 2 : Nat) : Int) + 1) := nr_congr (by omega) fun j hj ej => by
        by_cases q2 : x / 2 + 1 < hf n
        · have ej2 : j = x / 2 + 1 := by omega
          subst ej2
          refine gF_loc n2 hj (h.sub fun k hk => ?_)
          unfold secondG
          rw [if_pos (by unfold hf at q2; omega)]
          exact List.mem_append.mpr (.inr (by rwa [show (((x / 2 : Nat) : Int) + 1) = ((x / 2 + 1 : Nat) : Int) by omega]))
        · have ej2 : j = x / 2 := by omega
          rw [ej2]
          exact g0
      rw [g0, g1, hd]
theorem hS_loc (n2 : 2 ≤ n) (hk : k < hf n) (h : Agr f f' (sum0 n (k : Int))) : hS n f k = hS n f' k := by
  unfold hf at hk
  unfold hS
  split
  · rename_i q
    unfold sum0 at h
    rw [if_neg (by omega)] at h
    have a1 := h.at (2 * k) (by simp)
    have a2 := h.at (2 * k + 1) (by simp)
    rw [a1, a2]
  · rename_i q
    unfold sum0 at h
    rw [if_pos (by omega)] at h
    have a1 := h.at (2 * k) (by simp)
    rw [show n - 1 = 2 * k by omega, a1]
theorem gD_loc (n2 : 2 ≤ n) (hk : k < n / 2) (h : Agr f f' (difG n (k : Int))) : gD n f k = gD n f' k := by
  have a0 := h.at (2 * k) (mem_difG (by omega) (by omega) (by omega))
  have a1 := h.at (2 * k + 1) (mem_difG (by omega) (by omega) (by omega))
  unfold gD
  rw [a0, a1]
  congr 2
  congr 1
  refine nr_congr (by unfold hf; omega) fun j hj e => ?_
  unfold hf at hj e
  unfold ev
  exact h.at (2 * j) (mem_difG (by omega) (by omega) (by omega))
theorem hv_loc (r : Rl) (n2 : 2 ≤ n) {x : Nat} (hx : x < n) (h : Agr f f' (spreadL r n (x : Int))) : hv r n f x = hv r n f' x := by
  have nh : n = hf n + n / 2 := by unfold hf; omega
  unfold hv
  unfold spreadL at h
  by_cases q : x < hf n
  · rw [if_pos q, if_pos q]
    rw [if_pos (by omega)] at h
    have q' := q
    unfold hf at q'
    cases r with
    | sum =>
      unfold pS
      dsimp only
      have h : Agr f f' (sum0 n (x : Int)) := h
      unfold sum0 at h
      split
      · rw [if_neg (by omega)] at h
        have a1 := h.at (2 * x) (by simp)
        have a2 := h.at (2 * x + 1) (by simp)
        rw [a1, a2]
      · rw [if_pos (by omega)] at h
        have a1 := h.at (2 * x) (by simp)
        rw [show n - 1 = 2 * x by omega, a1]
    | half => exact hS_loc n2 q h
    | lean => exact hS_loc n2 q h
    | guess =>
      have h : Agr f f' (sumG n (x : Int)) := h
      have a0 := h.at (2 * x) (List.mem_append.mpr (.inl (by simp)))
      have hd : ∀ j : Nat, j < n / 2 → ((j : Int) = (x : Int) - 1 ∨ (j : Int) = (x : Int)) → gD n f j = gD n f' j := fun j hj e =>
        gD_loc n2 hj (h.sub fun k hk => List.mem_append.mpr (.inr (List.mem_flatMap.mpr ⟨(j : Int), mem_nearD (by omega) (by omega) e, hk⟩)))
      show gS n f x = gS n f' x
      unfold gS
      rw [a0]
      congr 2
      congr 1
      congr 1
      · exact nr_congr (by omega) fun j hj e => hd j hj (by omega)
      · exact nr_congr (by omega) fun j hj e => hd j hj (by omega)
  · rw [if_neg q, if_neg q]
    rw [if_neg (by omega)] at h
    have e : (x : Int) - ((hf n : Nat) : Int) = ((x - hf n : Nat) : Int) := by omega
    rw [e] at h
    have hk : x - hf n < n / 2 := by omega
    generalize x - hf n = k at *
    cases r with
    | sum =>
      have h : Agr f f' (dif0 n (k : Int)) := h
      unfold pD
      dsimp only
      have a1 := h.at (2 * k) (by simp [dif0])
      have a2 := h.at (2 * k + 1) (by simp [dif0])
      rw [a1, a2]
    | half =>
      have h : Agr f f' (dif0 n (k : Int)) := h
      unfold pD
      dsimp only
      have a1 := h.at (2 * k) (by simp [dif0])
      have a2 := h.at (2 * k + 1) (by simp [dif0])
      rw [a1, a2]
    | guess => exact gD_loc n2 hk h
    | lean =>
      have h : Agr f f' (difL n (k : Int)) := h
      have hs : ∀ j : Nat, j < hf n → ((k : Int) - 1 ≤ (j : Int) ∧ (j : Int) ≤ (k : Int) + 1) → Agr f f' (sum0 n (j : Int)) := fun j hj z =>
        h.sub fun i hi => List.mem_flatMap.mpr ⟨(j : Int), mem_nearS (by omega) (by omega) z.1 z.2, hi⟩
      have kh : k < hf n := by unfold hf; omega
      have h0 := hs k kh (by omega)
      unfold sum0 at h0
      rw [if_neg (by omega)] at h0
      have a1 := h0.at (2 * k) (by simp)
      have a2 := h0.at (2 * k + 1) (by simp)
      unfold pD
      dsimp only
      rw [a1, a2, sl_loc kh fun j hj z => hS_loc n2 hj (hs j hj z)]
end
end Kp
/-! plain: a row put back is the row; how errors and sizes go through -/
namespace Kp
section
variable {n k : Nat} {f f' e : Nat → Int}
theorem hv_s {r : Rl} (h : k < hf n) : hv r n f k = pS r n f k := by unfold hv; rw [if_pos h]
theorem hv_d {r : Rl} : hv r n f (hf n + k) = pD r n f k := by unfold hv; rw [if_neg (by omega), Nat.add_sub_cancel_left]
theorem gF_hv (n2 : 2 ≤ n) (hk : k < hf n) : gF n (hv .guess n f) (fun j => hv .guess n f (hf n + j)) k = f (2 * k) := by
  unfold gF
  rw [hv_s hk]
  show gS n f k - _ = _
  unfold gS
  have hd : ∀ i : Int, nr (n / 2) (fun j => hv .guess n f (hf n + j)) i = nr (n / 2) (gD n f) i := fun i => by
    unfold nr
    dsimp only
    rw [hv_d]
    rfl
  rw [hd, hd]
  omega
theorem bkr_hv (r : Rl) (n2 : 2 ≤ n) {x : Nat} (hx : x < n) : bkr r n (hv r n f) x = f x := by
  have nh : n = hf n + n / 2 := by unfold hf; omega
  have x2 : x / 2 < hf n := by unfold hf; omega
  have xe : x = 2 * (x / 2) ∨ x = 2 * (x / 2) + 1 := by omega
  have hl : ¬ x / 2 < n / 2 → n / 2 = x / 2 ∧ n - 1 = x ∧ n / 2 < hf n := fun q => by unfold hf at x2 ⊢; omega
  cases r with
  | sum =>
    unfold bkr bk
    dsimp only
    rw [hv_d]
    split
    · rename_i q
      rw [hv_s x2]
      unfold pS pD
      dsimp only
      rw [if_pos q]
      generalize x / 2 = k at *
      rcases xe with rfl | rfl
      · rw [if_pos (by omega)]; omega
      · rw [if_neg (by omega)]; omega
    · rename_i q
      obtain ⟨e1, e2, e3⟩ := hl q
      rw [hv_s e3]
      unfold pS
      dsimp only
      rw [if_neg (by omega), e2]
      omega
  | half =>
    unfold bkr bk hB
    dsimp only
    rw [hv_d]
    split
    · rename_i q
      rw [hv_s x2]
      unfold pS pD hS
      dsimp only
      rw [if_pos q]
      generalize x / 2 = k at *
      rcases xe with rfl | rfl
      · rw [if_pos (by omega)]; omega
      · rw [if_neg (by omega)]; omega
    · rename_i q
      obtain ⟨e1, e2, e3⟩ := hl q
      rw [hv_s e3]
      unfold pS hS
      dsimp only
      rw [if_neg (by omega), e2]
  | lean =>
    unfold bkr bk hB
    dsimp only
    rw [hv_d]
    have es : sl (hf n) (hv .lean n f) (x / 2) = sl (hf n) (hS n f) (x / 2) := sl_loc x2 fun j hj _ => by rw [hv_s hj]; rfl
    rw [es]
    split
    · rename_i q
      rw [hv_s x2]
      unfold pS pD
      dsimp only
      rw [show f (2 * (x / 2)) - f (2 * (x / 2) + 1) - sl (hf n) (hS n f) (x / 2) + sl (hf n) (hS n f) (x / 2) = f (2 * (x / 2)) - f (2 * (x / 2) + 1) by omega]
      unfold hS
      rw [if_pos q]
      generalize x / 2 = k at *
      rcases xe with rfl | rfl
      · rw [if_pos (by omega)]; omega
      · rw [if_neg (by omega)]; omega
    · rename_i q
      obtain ⟨e1, e2, e3⟩ := hl q
      rw [hv_s e3]
      unfold pS hS
      dsimp only
      rw [if_neg (by omega), e2]
  | guess =>
    unfold bkr bk
    dsimp only
    split
    · rw [gF_hv n2 x2]
      congr 1
      omega
    · rename_i q
      have g1 : nr (hf n) (gF n (hv .guess n f) fun j => hv .guess n f (hf n + j)) (((x / 2 : Nat) : Int) + 1) = nr (hf n) (ev f) (((x / 2 : Nat) : Int) + 1) := nr_congr (by omega) fun j hj _ => by
        rw [gF_hv n2 hj]; rfl
      rw [gF_hv n2 x2, g1, hv_d]
      show gD n f (x / 2) + _ = _
      unfold gD
      rw [show x = 2 * (x / 2) + 1 by omega, show (2 * (x / 2) + 1) / 2 = x / 2 by omega]
      omega
/-! ### errors -/
abbrev Nr (a b e : Int) : Prop := -e ≤ a - b ∧ a - b ≤ e
theorem nr_near {m : Nat} {g g' c : Nat → Int} {k : Int} (hm : 0 < m) (h : ∀ j, j < m → Nr (g j) (g' j) (c j)) : Nr (nr m g k) (nr m g' k) (nr m c k) := by
  unfold nr
  exact h _ (by omega)
theorem gF_near (n2 : 2 ≤ n) (hk : k < hf n) (h : ∀ j, j < n → Nr (f j) (f' j) (e j)) : Nr (gF n f (fun j => f (hf n + j)) k) (gF n f' (fun j => f' (hf n + j)) k) (cF n e (fun j => e (hf n + j)) k) := by
  have nh : n = hf n + n / 2 := by unfold hf; omega
  have h0 := h k (by omega)
  have hd : ∀ j, j < n / 2 → Nr (f (hf n + j)) (f' (hf n + j)) (e (hf n + j)) := fun j hj => h _ (by omega)
  have h1 := nr_near (k := (k : Int) - 1) (by omega) hd
  have h2 := nr_near (k := (k : Int)) (by omega) hd
  unfold gF cF
  omega
theorem bkr_near (r : Rl) (n2 : 2 ≤ n) {x : Nat} (hx : x < n) (h : ∀ j, j < n → Nr (f j) (f' j) (e j)) : Nr (bkr r n f x) (bkr r n f' x) (cbr r n e x) := by
  have nh : n = hf n + n / 2 := by unfold hf; omega
  have x2 : x / 2 < hf n := by unfold hf; omega
  cases r with
  | sum =>
    unfold bkr bk cbr cb
    dsimp only
    split
    · have h1 := h (x / 2) (by omega)
      have h2 := h (hf n + x / 2) (by omega)
      split <;> omega
    · have h1 := h (n / 2) (by omega)
      omega
  | half =>
    unfold bkr bk cbr cb hB pJ
    dsimp only
    split
    · have h1 := h (x / 2) (by omega)
      have h2 := h (hf n + x / 2) (by omega)
      split <;> omega
    · exact h (n / 2) (by omega)
  | lean =>
    unfold bkr bk cbr cb hB pJ
    dsimp only
    split
    · rename_i q
      have h1 := h (x / 2) (by omega)
      have h2 := h (hf n + x / 2) (by omega)
      have hsl : Nr (sl (hf n) f (x / 2)) (sl (hf n) f' (x / 2)) ((e (max 0 (((x / 2 : Nat) : Int) - 1)).toNat + nr (hf n) e (((x / 2 : Nat) : Int) + 1) + 3) / 4) := by
        have ha : Nr (if 0 < x / 2 then f (x / 2 - 1) else f (x / 2)) (if 0 < x / 2 then f' (x / 2 - 1) else f' (x / 2)) (e (max 0 (((x / 2 : Nat) : Int) - 1)).toNat) := by
          split
          · rw [show (max 0 (((x / 2 : Nat) : Int) - 1)).toNat = x / 2 - 1 by omega]
            exact h _ (by omega)
          · rw [show (max 0 (((x / 2 : Nat) : Int) - 1)).toNat = x / 2 by omega]
            exact h _ (by omega)
        have hb : Nr (if x / 2 + 1 < hf n then f (x / 2 + 1) else f (x / 2)) (if x / 2 + 1 < hf n then f' (x / 2 + 1) else f' (x / 2)) (nr (hf n) e (((x / 2 : Nat) : Int) + 1)) := by
          split
          · rw [nr_at (j := x / 2 + 1) (by omega)]
            exact h _ (by omega)
          · rw [nr_at (j := x / 2) (by omega)]
            exact h _ (by omega)
        unfold sl
        omega
      unfold cM
      dsimp only
      split <;> omega
    · exact h (n / 2) (by omega)
  | guess =>
    unfold bkr bk cbr cb
    dsimp only
    have g0 := gF_near n2 x2 h
    split
    · exact g0
    · have g1 := nr_near (g := gF n f fun j => f (hf n + j)) (g' := gF n f' fun j => f' (hf n + j)) (c := cF n e fun j => e (hf n + j)) (k := ((x / 2 : Nat) : Int) + 1) (by omega) fun j hj => gF_near n2 hj h
      have h2 := h (hf n + x / 2) (by omega)
      omega
/-! ### sizes -/
abbrev In (a B : Int) : Prop := -B ≤ a ∧ a ≤ B
variable {B : Int}
theorem nr_in {m : Nat} {g : Nat → Int} {k : Int} (hm : 0 < m) (h : ∀ j, j < m → In (g j) B) : In (nr m g k) B := by
  unfold nr
  exact h _ (by omega)
theorem sl_in {s : Nat → Int} {N : Nat} (hk : k < N) (h : ∀ j, j < N → In (s j) B) : -(2 * B) ≤ 4 * sl N s k + 1 ∧ 4 * sl N s k ≤ 2 * B + 2 := by
  have ha : In (if 0 < k then s (k - 1) else s k) B := by
    split
    · exact h _ (by omega)
    · exact h _ hk
  have hb : In (if k + 1 < N then s (k + 1) else s k) B := by
    split
    · exact h _ (by omega)
    · exact h _ hk
  unfold sl
  omega
theorem bkr_in (r : Rl) (n2 : 2 ≤ n) (hB1 : 1 ≤ B) {x : Nat} (hx : x < n) (h : ∀ j, j < n → In (f j) B) : In (bkr r n f x) (3 * B) := by
  have nh : n = hf n + n / 2 := by unfold hf; omega
  have x2 : x / 2 < hf n := by unfold hf; omega
  cases r with
  | sum =>
    unfold bkr bk
    dsimp only
    split
    · have h1 := h (x / 2) (by omega)
      have h2 := h (hf n + x / 2) (by omega)
      split <;> omega
    · have h1 := h (n / 2) (by omega)
      omega
  | half =>
    unfold bkr bk hB
    dsimp only
    split
    · have h1 := h (x / 2) (by omega)
      have h2 := h (hf n + x / 2) (by omega)
      split <;> omega
    · have h1 := h (n / 2) (by omega)
      omega
  | lean =>
    unfold bkr bk hB
    dsimp only
    split
    · have h1 := h (x / 2) (by omega)
      have h2 := h (hf n + x / 2) (by omega)
      have h3 := sl_in (s := f) x2 fun j hj => h j (by omega)
      split <;> omega
    · have h1 := h (n / 2) (by omega)
      omega
  | guess =>
    unfold bkr bk
    dsimp only
    have gf : ∀ k, k < hf n → In (gF n f (fun j => f (hf n + j)) k) (2 * B) := fun k hk => by
      have h0 := h k (by omega)
      have hd : ∀ j, j < n / 2 → In (f (hf n + j)) B := fun j hj => h _ (by omega)
      have h1 := nr_in (k := (k : Int) - 1) (by omega) hd
      have h2 := nr_in (k := (k : Int)) (by omega) hd
      unfold gF
      omega
    have g0 := gf _ x2
    split
    · omega
    · have g1 := nr_in (k := ((x / 2 : Nat) : Int) + 1) (by omega) gf
      have h2 := h (hf n + x / 2) (by omega)
      omega
theorem cbr_in (r : Rl) (n2 : 2 ≤ n) (hB1 : 2 ≤ B) {x : Nat} (hx : x < n) (h : ∀ j, j < n → In (f j) B) : In (cbr r n f x) (3 * B) := by
  have nh : n = hf n + n / 2 := by unfold hf; omega
  have x2 : x / 2 < hf n := by unfold hf; omega
  cases r with
  | sum =>
    unfold cbr cb
    dsimp only
    split
    · have h1 := h (x / 2) (by omega)
      have h2 := h (hf n + x / 2) (by omega)
      omega
    · have h1 := h (n / 2) (by omega)
      omega
  | half =>
    unfold cbr cb pJ
    dsimp only
    split
    · have h1 := h (x / 2) (by omega)
      have h2 := h (hf n + x / 2) (by omega)
      omega
    · have h1 := h (n / 2) (by omega)
      omega
  | lean =>
    unfold cbr cb pJ cM
    dsimp only
    split
    · have h1 := h (x / 2) (by omega)
      have h2 := h (hf n + x / 2) (by omega)
      have h3 := h (max 0 (((x / 2 : Nat) : Int) - 1)).toNat (by omega)
      have h4 := nr_in (m := hf n) (g := f) (k := ((x / 2 : Nat) : Int) + 1) (by omega) fun j hj => h j (by omega)
      omega
    · have h1 := h (n / 2) (by omega)
      omega
  | guess =>
    unfold cbr cb
    dsimp only
    have gf : ∀ k, k < hf n → In (cF n f (fun j => f (hf n + j)) k) (2 * B) := fun k hk => by
      have h0 := h k (by omega)
      have hd : ∀ j, j < n / 2 → In (f (hf n + j)) B := fun j hj => h _ (by omega)
      have h1 := nr_in (k := (k : Int) - 1) (by omega) hd
      have h2 := nr_in (k := (k : Int)) (by omega) hd
      unfold cF
      omega
    have g0 := gf _ x2
    split
    · omega
    · have g1 := nr_in (k := ((x / 2 : Nat) : Int) + 1) (by omega) gf
      have h2 := h (hf n + x / 2) (by omega)
      omega
theorem hv_in (r : Rl) (n2 : 2 ≤ n) (hB1 : 1 ≤ B) {x : Nat} (hx : x < n) (h : ∀ j, j < n → In (f j) B) : In (hv r n f x) (3 * B) := by
  have nh : n = hf n + n / 2 := by unfold hf; omega
  have hs : ∀ k, k < hf n → In (hS n f k) B := fun k hk => by
    unfold hS
    split
    · have h1 := h (2 * k) (by omega)
      have h2 := h (2 * k + 1) (by omega)
      omega
    · exact h _ (by omega)
  have hg : ∀ k, k < n / 2 → In (gD n f k) (2 * B) := fun k hk => by
    have h1 := h (2 * k) (by omega)
    have h2 := h (2 * k + 1) (by omega)
    have h3 := nr_in (m := hf n) (g := ev f) (k := (k : Int) + 1) (B := B) (by omega) fun j hj => h _ (by unfold hf at hj; omega)
    unfold gD
    omega
  unfold hv
  split
  · rename_i q
    cases r with
    | sum =>
      unfold pS
      dsimp only
      split
      · have h1 := h (2 * x) (by omega)
        have h2 := h (2 * x + 1) (by omega)
        omega
      · have h1 := h (n - 1) (by omega)
        omega
    | half =>
      have := hs x q
      show In (hS n f x) _
      omega
    | lean =>
      have := hs x q
      show In (hS n f x) _
      omega
    | guess =>
      have h0 := h (2 * x) (by unfold hf at q; omega)
      have h1 := nr_in (k := (x : Int) - 1) (by omega) hg
      have h2 := nr_in (k := (x : Int)) (by omega) hg
      show In (gS n f x) _
      unfold gS
      omega
  · rename_i q
    have hk : x - hf n < n / 2 := by omega
    generalize x - hf n = k at *
    have h1 := h (2 * k) (by omega)
    have h2 := h (2 * k + 1) (by omega)
    cases r with
    | sum =>
      unfold pD
      dsimp only
      omega
    | half =>
      unfold pD
      dsimp only
      omega
    | guess =>
      have := hg k hk
      show In (gD n f k) _
      omega
    | lean =>
      have h3 := sl_in (s := hS n f) (show k < hf n by omega) hs
      unfold pD
      dsimp only
      omega
end
end Kp
/-! plain: whole fields: what hangs on what, back behind halved, errors, sizes -/
namespace Kp
/-- alike at the places of A -/
def AgrS (A : PS) (g g' : G2) : Prop := ∀ q, A q → g q.1 q.2 = g' q.1 q.2
def inC (d : Nat × Nat) : PS := fun q => q.1 < d.1 ∧ q.2 < d.2
/-- op hangs on T alone, in rows of n -/
def LocOp (op : Nat → (Nat → Int) → Nat → Int) (T : Nat → Int → List Int) (n : Nat) : Prop := (∀ (f f' : Nat → Int) (x : Nat), x < n → Agr f f' (T n (x : Int)) → op n f x = op n f' x) ∧ ∀ (x : Nat) (k : Int), x < n → k ∈ T n (x : Int) → 0 ≤ k ∧ k < (n : Int)
theorem loc_hv (r : Rl) {n : Nat} (h : 2 ≤ n) : LocOp (hv r) (spreadL r) n := ⟨fun _ _ _ hx => hv_loc r h hx, fun _ _ hx hk => spreadL_in r hx hk⟩
theorem loc_bkr (r : Rl) {n : Nat} (h : 2 ≤ n) : LocOp (bkr r) (backL r) n := ⟨fun _ _ _ hx => bkr_loc r h hx, fun _ _ hx hk => backL_in r hx hk⟩
section
variable {op : Nat → (Nat → Int) → Nat → Int} {T : Nat → Int → List Int} {c d : Nat × Nat} {A : PS} {g g' : G2}
theorem agr_rows (h : LocOp op T c.2) (a : AgrS (img (relR (T c.2) c) A) g g') : AgrS A (rowsOp op c g) (rowsOp op c g') := by
  rintro ⟨y, x⟩ hq
  show (if y < c.1 ∧ x < c.2 then op c.2 (g y) x else g y x) = if y < c.1 ∧ x < c.2 then op c.2 (g' y) x else g' y x
  by_cases z : y < c.1 ∧ x < c.2
  · rw [if_pos z, if_pos z]
    refine h.1 _ _ _ z.2 fun k hk => ?_
    have b := h.2 _ _ z.2 hk
    exact a (y, k.toNat) ⟨_, hq, .inl ⟨z.1, z.2, rfl, by rw [Int.toNat_of_nonneg b.1]; exact hk⟩⟩
  · rw [if_neg z, if_neg z]
    exact a (y, x) ⟨_, hq, .inr ⟨z, rfl⟩⟩
theorem agr_pill (h : LocOp op T c.1) (a : AgrS (img (relP (T c.1) c) A) g g') : AgrS A (pillOp op c g) (pillOp op c g') := by
  rintro ⟨y, x⟩ hq
  show (if y < c.1 ∧ x < c.2 then op c.1 (fun t => g t x) y else g y x) = if y < c.1 ∧ x < c.2 then op c.1 (fun t => g' t x) y else g' y x
  by_cases z : y < c.1 ∧ x < c.2
  · rw [if_pos z, if_pos z]
    refine h.1 _ _ _ z.1 fun k hk => ?_
    have b := h.2 _ _ z.1 hk
    exact a (k.toNat, x) ⟨_, hq, .inl ⟨z.1, z.2, rfl, by rw [Int.toNat_of_nonneg b.1]; exact hk⟩⟩
  · rw [if_neg z, if_neg z]
    exact a (y, x) ⟨_, hq, .inr ⟨z, rfl⟩⟩
theorem agr_stepR {r : Rl} {l : L} (hR : l.isR = true → 2 ≤ c.2) (hP : l.isP = true → 2 ≤ c.1) (a : AgrS (ndStep r l c A) g g') : AgrS A (stepR (bkr r) l c g) (stepR (bkr r) l c g') := by
  cases l with
  | r => exact agr_rows (loc_bkr r (hR rfl)) a
  | p => exact agr_pill (loc_bkr r (hP rfl)) a
  | b => exact agr_rows (loc_bkr r (hR rfl)) (agr_pill (loc_bkr r (hP rfl)) a)
theorem agr_stepF {r : Rl} {l : L} (hR : l.isR = true → 2 ≤ c.2) (hP : l.isP = true → 2 ≤ c.1) (a : AgrS (hgStep r l c A) g g') : AgrS A (stepF (hv r) l c g) (stepF (hv r) l c g') := by
  cases l with
  | r => exact agr_rows (loc_hv r (hR rfl)) a
  | p => exact agr_pill (loc_hv r (hP rfl)) a
  | b => exact agr_pill (loc_hv r (hP rfl)) (agr_rows (loc_hv r (hR rfl)) a)
end
section
variable {r : Rl} {c : Nat × Nat} {ws : List L} {A : PS} {g g' e : G2}
theorem bwd_agr (ok : WOk c ws) (a : AgrS (needM r c ws A) g g') : ∀ i, i ≤ ws.length → AgrS (ndSet r c ws A (ws.length - i)) (bwd (bkr r) c ws g i) (bwd (bkr r) c ws g' i)
  | 0, _ => a
  | i + 1, hi => by
    have ih := bwd_agr ok a i (by omega)
    have hk : ws.length - 1 - i < ws.length := by omega
    have hl : ws[ws.length - 1 - i]? = some ws[ws.length - 1 - i] := List.getElem?_eq_getElem hk
    obtain ⟨h1, h2⟩ := ok.at hl
    rw [show ws.length - i = (ws.length - 1 - i) + 1 by omega] at ih
    unfold ndSet at ih
    unfold bwd
    rw [hl] at ih ⊢
    rw [show ws.length - (i + 1) = ws.length - 1 - i by omega]
    exact agr_stepR h1 h2 ih
/-- what is put back at A hangs on needM alone -/
theorem back_need (ok : WOk c ws) (a : AgrS (needM r c ws A) g g') : AgrS A (backM r c ws g) (backM r c ws g') := by
  have h := bwd_agr ok a ws.length (Nat.le_refl _)
  rw [Nat.sub_self] at h
  exact h
theorem fwd_agr (ok : WOk c ws) (a : AgrS (hangM r c ws A) g g') : ∀ k, k ≤ ws.length → AgrS (hgSet r c ws A (ws.length - k)) (fwd r c ws g k) (fwd r c ws g' k)
  | 0, _ => a
  | k + 1, hi => by
    have ih := fwd_agr ok a k (by omega)
    have hk : k < ws.length := by omega
    have hl : ws[k]? = some ws[k] := List.getElem?_eq_getElem hk
    obtain ⟨h1, h2⟩ := ok.at hl
    rw [show ws.length - k = (ws.length - (k + 1)) + 1 by omega] at ih
    unfold hgSet at ih
    unfold fwd
    rw [show ws.length - 1 - (ws.length - (k + 1)) = k by omega] at ih
    rw [hl] at ih ⊢
    exact agr_stepF h1 h2 ih
theorem halved_hang (ok : WOk c ws) (a : AgrS (hangM r c ws A) g g') : AgrS A (halvedM r c ws g) (halvedM r c ws g') := by
  have h := fwd_agr ok a ws.length (Nat.le_refl _)
  rw [Nat.sub_self] at h
  exact h
/-! ### one of many -/
theorem img_one {rel : Nat × Nat → Nat × Nat → Prop} {B : Nat × Nat → PS} {D : PS} (h : ∀ q, D q → ∃ p, A p ∧ B p q) : ∀ q, img rel D q → ∃ p, A p ∧ img rel (B p) q := by
  rintro q ⟨t, ht, hr⟩
  obtain ⟨p, hp, hb⟩ := h t ht
  exact ⟨p, hp, t, hb, hr⟩
theorem nd_one : ∀ i q, ndSet r c ws A i q → ∃ p, A p ∧ ndSet r c ws (· = p) i q
  | 0, q, h => ⟨q, h, rfl⟩
  | i + 1, q, h => by
    have ih := nd_one i
    unfold ndSet at h ⊢
    cases hl : ws[i]? with
    | none =>
      rw [hl] at h
      exact ih q h
    | some l =>
      rw [hl] at h
      cases l with
      | r => exact img_one (B := fun p => ndSet r c ws (· = p) i) ih q h
      | p => exact img_one (B := fun p => ndSet r c ws (· = p) i) ih q h
      | b => exact img_one (B := fun p => img (relR (backL r (cnr c ws i).2) (cnr c ws i)) (ndSet r c ws (· = p) i)) (img_one (B := fun p => ndSet r c ws (· = p) i) ih) q h
theorem need_one {q : Nat × Nat} (h : needM r c ws A q) : ∃ p, A p ∧ needM r c ws (· = p) q := nd_one _ q h
/-! ### back behind halved -/
theorem bkr_row {n x : Nat} {f f0 : Nat → Int} (n2 : 2 ≤ n) (hx : x < n) (h : ∀ k, k < n → f k = hv r n f0 k) : bkr r n f x = f0 x := by
  rw [← bkr_hv (f := f0) r n2 hx]
  exact bkr_loc r n2 hx fun k hk => by
    have := backL_in r hx hk
    exact h _ (by omega)
theorem rows_inv (d : Nat × Nat) (hc : 2 ≤ d.2) (h : ∀ y x, y < d.1 → x < d.2 → g y x = rowsOp (hv r) d g' y x) (y x : Nat) (hy : y < d.1) (hx : x < d.2) : rowsOp (bkr r) d g y x = g' y x := by
  show (if y < d.1 ∧ x < d.2 then bkr r d.2 (g y) x else g y x) = _
  rw [if_pos ⟨hy, hx⟩]
  refine bkr_row hc hx fun k hk => ?_
  rw [h y k hy hk]
  show (if y < d.1 ∧ k < d.2 then hv r d.2 (g' y) k else g' y k) = _
  rw [if_pos ⟨hy, hk⟩]
theorem pill_inv (d : Nat × Nat) (hc : 2 ≤ d.1) (h : ∀ y x, y < d.1 → x < d.2 → g y x = pillOp (hv r) d g' y x) (y x : Nat) (hy : y < d.1) (hx : x < d.2) : pillOp (bkr r) d g y x = g' y x := by
  show (if y < d.1 ∧ x < d.2 then bkr r d.1 (fun t => g t x) y else g y x) = _
  rw [if_pos ⟨hy, hx⟩]
  refine bkr_row (f := fun t => g t x) (f0 := fun t => g' t x) hc hy fun k hk => ?_
  show g k x = _
  rw [h k x hk hx]
  show (if k < d.1 ∧ x < d.2 then hv r d.1 (fun t => g' t x) k else g' k x) = _
  rw [if_pos ⟨hk, hx⟩]
theorem out_rows {op : Nat → (Nat → Int) → Nat → Int} {d : Nat × Nat} {y x : Nat} (h : ¬ (y < d.1 ∧ x < d.2)) : rowsOp op d g y x = g y x := if_neg h
theorem out_pill {op : Nat → (Nat → Int) → Nat → Int} {d : Nat × Nat} {y x : Nat} (h : ¬ (y < d.1 ∧ x < d.2)) : pillOp op d g y x = g y x := if_neg h
/-- a step undone: rows alike but where g was stepped -/
theorem step_inv {l : L} (d : Nat × Nat) (hR : l.isR = true → 2 ≤ d.2) (hP : l.isP = true → 2 ≤ d.1) (h : AgrS (inC c) g (stepF (hv r) l d g')) (hd : d.1 ≤ c.1 ∧ d.2 ≤ c.2) : AgrS (inC c) (stepR (bkr r) l d g) g' := by
  rintro ⟨y, x⟩ ⟨hy, hx⟩
  show stepR (bkr r) l d g y x = g' y x
  have hh : ∀ y x, y < c.1 → x < c.2 → g y x = stepF (hv r) l d g' y x := fun y x h1 h2 => h (y, x) ⟨h1, h2⟩
  dsimp only at hy hx
  have hi : ∀ y x, y < d.1 → x < d.2 → g y x = stepF (hv r) l d g' y x := fun y x h1 h2 => hh y x (by omega) (by omega)
  by_cases z : y < d.1 ∧ x < d.2
  · cases l with
    | r => exact rows_inv d (hR rfl) hi y x z.1 z.2
    | p => exact pill_inv d (hP rfl) hi y x z.1 z.2
    | b => exact rows_inv d (hR rfl) (fun y x h1 h2 => pill_inv d (hP rfl) hi y x h1 h2) y x z.1 z.2
  · have e := hh y x hy hx
    cases l with
    | r =>
      rw [show stepF (hv r) .r d g' y x = g' y x from out_rows z] at e
      exact (out_rows z).trans e
    | p =>
      rw [show stepF (hv r) .p d g' y x = g' y x from out_pill z] at e
      exact (out_pill z).trans e
    | b =>
      rw [show stepF (hv r) .b d g' y x = g' y x from (out_pill z).trans (out_rows z)] at e
      exact ((out_rows z).trans (out_pill z)).trans e
theorem bwd_fwd (ok : WOk c ws) : ∀ i, i ≤ ws.length → AgrS (inC c) (bwd (bkr r) c ws (halvedM r c ws g) i) (fwd r c ws g (ws.length - i))
  | 0, _ => fun _ _ => rfl
  | i + 1, hi => by
    have ih := bwd_fwd ok i (by omega)
    have hk : ws.length - 1 - i < ws.length := by omega
    have hl : ws[ws.length - 1 - i]? = some ws[ws.length - 1 - i] := List.getElem?_eq_getElem hk
    obtain ⟨h1, h2⟩ := ok.at hl
    rw [show ws.length - i = (ws.length - 1 - i) + 1 by omega] at ih
    unfold fwd at ih
    unfold bwd
    rw [hl] at ih ⊢
    rw [show ws.length - (i + 1) = ws.length - 1 - i by omega]
    exact step_inv _ h1 h2 ih (cnr_le ws _ c)
/-- what is put back from all numbers is the picture -/
theorem back_halved (ok : WOk c ws) : AgrS (inC c) (backM r c ws (halvedM r c ws g)) g := by
  have h := bwd_fwd (r := r) (g := g) ok ws.length (Nat.le_refl _)
  rw [Nat.sub_self] at h
  exact h
/-! ### errors -/
def NrS (d : Nat × Nat) (g g' e : G2) : Prop := ∀ y x, y < d.1 → x < d.2 → Nr (g y x) (g' y x) (e y x)
theorem rows_near {d : Nat × Nat} (hd : d.1 ≤ c.1 ∧ d.2 ≤ c.2) (n2 : 2 ≤ d.2) (h : NrS c g g' e) : NrS c (rowsOp (bkr r) d g) (rowsOp (bkr r) d g') (rowsOp (cbr r) d e) := fun y x hy hx => by
  by_cases z : y < d.1 ∧ x < d.2
  · rw [show rowsOp (bkr r) d g y x = _ from if_pos z, show rowsOp (bkr r) d g' y x = _ from if_pos z, show rowsOp (cbr r) d e y x = _ from if_pos z]
    exact bkr_near r n2 z.2 fun j hj => h y j (by omega) (by omega)
  · rw [out_rows z, out_rows z, out_rows z]
    exact h y x hy hx
theorem pill_near {d : Nat × Nat} (hd : d.1 ≤ c.1 ∧ d.2 ≤ c.2) (n2 : 2 ≤ d.1) (h : NrS c g g' e) : NrS c (pillOp (bkr r) d g) (pillOp (bkr r) d g') (pillOp (cbr r) d e) := fun y x hy hx => by
  by_cases z : y < d.1 ∧ x < d.2
  · rw [show pillOp (bkr r) d g y x = _ from if_pos z, show pillOp (bkr r) d g' y x = _ from if_pos z, show pillOp (cbr r) d e y x = _ from if_pos z]
    exact bkr_near r n2 z.1 fun j hj => h j x (by omega) (by omega)
  · rw [out_pill z, out_pill z, out_pill z]
    exact h y x hy hx
theorem bwd_near (ok : WOk c ws) (h : NrS c g g' e) : ∀ i, i ≤ ws.length → NrS c (bwd (bkr r) c ws g i) (bwd (bkr r) c ws g' i) (bwd (cbr r) c ws e i)
  | 0, _ => h
  | i + 1, hi => by
    have ih := bwd_near ok h i (by omega)
    have hk : ws.length - 1 - i < ws.length := by omega
    have hl : ws[ws.length - 1 - i]? = some ws[ws.length - 1 - i] := List.getElem?_eq_getElem hk
    obtain ⟨h1, h2⟩ := ok.at hl
    have le := cnr_le ws (ws.length - 1 - i) c
    unfold bwd
    rw [hl]
    dsimp only
    generalize ws[ws.length - 1 - i] = l at *
    cases l with
    | r => exact rows_near le (h1 rfl) ih
    | p => exact pill_near le (h2 rfl) ih
    | b => exact rows_near le (h1 rfl) (pill_near le (h2 rfl) ih)
/-- errors of the numbers are seen as worst at most -/
theorem back_near (ok : WOk c ws) (h : NrS c g g' e) : NrS c (backM r c ws g) (backM r c ws g') (worstM r c ws e) := bwd_near ok h _ (Nat.le_refl _)
/-! ### sizes -/
def BdS (B : Int) (d : Nat × Nat) (g : G2) : Prop := ∀ y x, y < d.1 → x < d.2 → In (g y x) B
theorem BdS.mono {B C : Int} (h : BdS B c g) (l : B ≤ C) : BdS C c g := fun y x hy hx => by
  have := h y x hy hx
  omega
def GrowOp (m : Int) (op : Nat → (Nat → Int) → Nat → Int) : Prop := ∀ (n : Nat) (f : Nat → Int) (B : Int) (x : Nat), 2 ≤ n → m ≤ B → x < n → (∀ j, j < n → In (f j) B) → In (op n f x) (3 * B)
theorem grow_hv (r : Rl) : GrowOp 2 (hv r) := fun _ _ _ _ n2 hB hx h => hv_in r n2 (by omega) hx h
theorem grow_bkr (r : Rl) : GrowOp 2 (bkr r) := fun _ _ _ _ n2 hB hx h => bkr_in r n2 (by omega) hx h
theorem grow_cbr (r : Rl) : GrowOp 2 (cbr r) := fun _ _ _ _ n2 hB hx h => cbr_in r n2 hB hx h
theorem rows_in {op : Nat → (Nat → Int) → Nat → Int} (G : GrowOp 2 op) {d : Nat × Nat} {B : Int} (hB : 2 ≤ B) (hd : d.1 ≤ c.1 ∧ d.2 ≤ c.2) (n2 : 2 ≤ d.2) (h : BdS B c g) : BdS (3 * B) c (rowsOp op d g) := fun y x hy hx => by
  by_cases z : y < d.1 ∧ x < d.2
  · rw [show rowsOp op d g y x = _ from if_pos z]
    exact G _ _ _ _ n2 hB z.2 fun j hj => h y j (by omega) (by omega)
  · rw [out_rows z]
    have := h y x hy hx
    omega
theorem pill_in {op : Nat → (Nat → Int) → Nat → Int} (G : GrowOp 2 op) {d : Nat × Nat} {B : Int} (hB : 2 ≤ B) (hd : d.1 ≤ c.1 ∧ d.2 ≤ c.2) (n2 : 2 ≤ d.1) (h : BdS B c g) : BdS (3 * B) c (pillOp op d g) := fun y x hy hx => by
  by_cases z : y < d.1 ∧ x < d.2
  · rw [show pillOp op d g y x = _ from if_pos z]
    exact G _ _ _ _ n2 hB z.1 fun j hj => h j x (by omega) (by omega)
  · rw [out_pill z]
    have := h y x hy hx
    omega
def hal (l : L) : Nat := l.isR.toNat + l.isP.toNat
def hals (ws : List L) : Nat := (ws.map hal).sum
theorem stepF_in {op : Nat → (Nat → Int) → Nat → Int} (G : GrowOp 2 op) {d : Nat × Nat} {B : Int} {l : L} (hB : 2 ≤ B) (hd : d.1 ≤ c.1 ∧ d.2 ≤ c.2) (hR : l.isR = true → 2 ≤ d.2) (hP : l.isP = true → 2 ≤ d.1) (h : BdS B c g) : BdS (B * 3 ^ hal l) c (stepF op l d g) := by
  cases l with
  | r => exact (rows_in G hB hd (hR rfl) h).mono (by show 3 * B ≤ B * 3; omega)
  | p => exact (pill_in G hB hd (hP rfl) h).mono (by show 3 * B ≤ B * 3; omega)
  | b => exact (pill_in G (by omega) hd (hP rfl) (rows_in G hB hd (hR rfl) h)).mono (by show 3 * (3 * B) ≤ B * 9; omega)
theorem stepR_in {op : Nat → (Nat → Int) → Nat → Int} (G : GrowOp 2 op) {d : Nat × Nat} {B : Int} {l : L} (hB : 2 ≤ B) (hd : d.1 ≤ c.1 ∧ d.2 ≤ c.2) (hR : l.isR = true → 2 ≤ d.2) (hP : l.isP = true → 2 ≤ d.1) (h : BdS B c g) : BdS (B * 3 ^ hal l) c (stepR op l d g) := by
  cases l with
  | r => exact (rows_in G hB hd (hR rfl) h).mono (by show 3 * B ≤ B * 3; omega)
  | p => exact (pill_in G hB hd (hP rfl) h).mono (by show 3 * B ≤ B * 3; omega)
  | b => exact (rows_in G (by omega) hd (hR rfl) (pill_in G hB hd (hP rfl) h)).mono (by show 3 * (3 * B) ≤ B * 9; omega)
theorem pow3 (n : Nat) : (1 : Int) ≤ 3 ^ n := by
  induction n with
  | zero => decide
  | succ n ih => rw [Int.pow_succ]; omega
theorem le_pow3 {B : Int} (h : 2 ≤ B) (n : Nat) : 2 ≤ B * 3 ^ n := by
  have := pow3 n
  have h2 : B * 1 ≤ B * 3 ^ n := Int.mul_le_mul_of_nonneg_left this (by omega)
  omega
theorem hals_take {k : Nat} {l : L} (h : ws[k]? = some l) : hals (ws.take (k + 1)) = hals (ws.take k) + hal l := by
  unfold hals
  rw [List.take_add_one, h]
  simp
theorem hals_drop {k : Nat} {l : L} (h : ws[k]? = some l) : hals (ws.drop k) = hal l + hals (ws.drop (k + 1)) := by
  unfold hals
  have e := List.getElem?_eq_some_iff.mp h
  obtain ⟨hk, e⟩ := e
  rw [List.drop_eq_getElem_cons hk, List.map_cons, List.sum_cons, e]
theorem fwd_in (ok : WOk c ws) {B : Int} (hB : 2 ≤ B) (h : BdS B c g) : ∀ k, k ≤ ws.length → BdS (B * 3 ^ hals (ws.take k)) c (fwd r c ws g k)
  | 0, _ => by
    refine BdS.mono (B := B) h ?_
    have := pow3 (hals (ws.take 0))
    show B ≤ B * 3 ^ 0
    omega
  | k + 1, hi => by
    have ih := fwd_in ok hB h k (by omega)
    have hk : k < ws.length := by omega
    have hl : ws[k]? = some ws[k] := List.getElem?_eq_getElem hk
    obtain ⟨h1, h2⟩ := ok.at hl
    unfold fwd
    rw [hals_take hl, Int.pow_add, ← Int.mul_assoc, hl]
    exact stepF_in (grow_hv r) (le_pow3 hB _) (cnr_le ws k c) h1 h2 ih
theorem bwd_in {op : Nat → (Nat → Int) → Nat → Int} (G : GrowOp 2 op) (ok : WOk c ws) {B : Int} (hB : 2 ≤ B) (h : BdS B c g) : ∀ i, i ≤ ws.length → BdS (B * 3 ^ hals (ws.drop (ws.length - i))) c (bwd op c ws g i)
  | 0, _ => by
    refine BdS.mono (B := B) h ?_
    rw [Nat.sub_zero, List.drop_length]
    show B ≤ B * 3 ^ 0
    omega
  | i + 1, hi => by
    have ih := bwd_in G ok hB h i (by omega)
    have hk : ws.length - 1 - i < ws.length := by omega
    have hl : ws[ws.length - 1 - i]? = some ws[ws.length - 1 - i] := List.getElem?_eq_getElem hk
    obtain ⟨h1, h2⟩ := ok.at hl
    unfold bwd
    rw [show ws.length - (i + 1) = ws.length - 1 - i by omega, hals_drop hl, show ws.length - 1 - i + 1 = ws.length - i by omega, Nat.add_comm, Int.pow_add, ← Int.mul_assoc, hl]
    exact stepR_in G (le_pow3 hB _) (cnr_le ws _ c) h1 h2 ih
theorem hals_le : ∀ {ws : List L} {c : Nat × Nat} {a b : Nat}, WOk c ws → c.1 ≤ 2 ^ a → c.2 ≤ 2 ^ b → hals ws ≤ a + b
  | [], _, _, _, _, _, _ => Nat.zero_le _
  | l :: ls, (h, w), a, b, ok, h1, h2 => by
    dsimp only at h1 h2
    have e : hals (l :: ls) = hal l + hals ls := by unfold hals; rw [List.map_cons, List.sum_cons]
    have half : ∀ {m k : Nat}, 2 ≤ m → m ≤ 2 ^ k → ∃ j, k = j + 1 ∧ hf m ≤ 2 ^ j := fun {m k} m2 hm => by
      cases k with
      | zero => omega
      | succ j =>
        refine ⟨j, rfl, ?_⟩
        rw [Nat.pow_succ] at hm
        unfold hf
        omega
    obtain ⟨o1, o2, o3⟩ := ok
    rw [e]
    cases l with
    | r =>
      obtain ⟨j, rfl, hj⟩ := half (o1 rfl) h2
      have := hals_le (ws := ls) (c := (h, hf w)) (a := a) (b := j) o3 h1 hj
      show 1 + hals ls ≤ _
      omega
    | p =>
      obtain ⟨j, rfl, hj⟩ := half (o2 rfl) h1
      have := hals_le (ws := ls) (c := (hf h, w)) (a := j) (b := b) o3 hj h2
      show 1 + hals ls ≤ _
      omega
    | b =>
      obtain ⟨j, rfl, hj⟩ := half (o2 rfl) h1
      obtain ⟨i, rfl, hi⟩ := half (o1 rfl) h2
      have := hals_le (ws := ls) (c := (hf h, hf w)) (a := j) (b := i) o3 hj hi
      show 2 + hals ls ≤ _
      omega
theorem pow3_le {m n : Nat} (h : m ≤ n) : (3 : Int) ^ m ≤ 3 ^ n := by
  obtain ⟨k, rfl⟩ := Nat.exists_eq_add_of_le h
  rw [Int.pow_add]
  have h1 := pow3 m
  have h2 := pow3 k
  have : (3 : Int) ^ m * 1 ≤ 3 ^ m * 3 ^ k := Int.mul_le_mul_of_nonneg_left h2 (by omega)
  omega
/-- the shapes of the law's pictures -/
def Shp (c : Nat × Nat) : Prop := (c.1 ≤ 9 ∧ c.2 ≤ 9) ∨ c = (64, 2) ∨ c = (1, 64)
theorem hals8 (ok : WOk c ws) (s : Shp c) : hals ws ≤ 8 := by
  rcases s with ⟨h1, h2⟩ | rfl | rfl
  · exact hals_le (a := 4) (b := 4) ok (by omega) (by omega)
  · exact Nat.le_trans (hals_le (a := 6) (b := 1) ok (by decide) (by decide)) (by decide)
  · exact Nat.le_trans (hals_le (a := 0) (b := 6) ok (by decide) (by decide)) (by decide)
theorem halved_in (ok : WOk c ws) (s : Shp c) (h : BdS 100000 c g) : BdS 656100000 c (halvedM r c ws g) := by
  refine (fwd_in ok (by decide) h ws.length (Nat.le_refl _)).mono ?_
  rw [List.take_length]
  have := pow3_le (hals8 ok s)
  show 100000 * (3 : Int) ^ hals ws ≤ _
  rw [show (3 : Int) ^ 8 = 6561 by decide] at this
  omega
theorem back_in (ok : WOk c ws) (s : Shp c) (h : BdS 1000000000 c g) : BdS 999999999999999 c (backM r c ws g) := by
  refine (bwd_in (grow_bkr r) ok (by decide) h ws.length (Nat.le_refl _)).mono ?_
  rw [Nat.sub_self, List.drop_zero]
  have := pow3_le (hals8 ok s)
  rw [show (3 : Int) ^ 8 = 6561 by decide] at this
  omega
theorem worst_in (ok : WOk c ws) (s : Shp c) (h : BdS 1073741824 c g) : BdS 999999999999999 c (worstM r c ws g) := by
  refine (bwd_in (grow_cbr r) ok (by decide) h ws.length (Nat.le_refl _)).mono ?_
  rw [Nat.sub_self, List.drop_zero]
  have := pow3_le (hals8 ok s)
  rw [show (3 : Int) ^ 8 = 6561 by decide] at this
  omega
end
end Kp
/-! the law's ways, values, rows, shapes -/
namespace Kp
open PySem PySem.Spec L2 TL
def p_law_whole : Pm := fun vs H Q => ∃ n : Int, vs = [.int n] ∧ Q (.bl true) H
def p_law_shape : Pm := fun vs H Q => ∃ (a : Addr) (n : Nat), vs = [.ref a] ∧ BoxAt H a n ∧ n ≤ 500 ∧ ∀ (t : Addr) (c : Nat × Nat) H', Shp c → 1 ≤ c.1 → 1 ≤ c.2 → Kept (· = a) H H' → BoxAt H' a (n + 3) → H t = none → H' t = some (cT c) → Q (.ref t) H'
def p_law_value : Pm := fun vs H Q => ∃ (a : Addr) (n : Nat), vs = [.ref a] ∧ BoxAt H a n ∧ n ≤ 500 ∧ ∀ (z : Int) H', -100000 ≤ z → z ≤ 100000 → Kept (· = a) H H' → BoxAt H' a (n + 2) → Q (.int z) H'
def p_law_way : Pm := fun vs H Q => ∃ (a t : Addr) (n : Nat) (c : Nat × Nat), vs = [.ref a, .ref t] ∧ BoxAt H a n ∧ n ≤ 500 ∧ H t = some (cT c) ∧ Sz c.1 c.2 ∧ ∀ (ws : List L) H', WOk c ws → ws.length ≤ 10 → Kept (· = a) H H' → BoxAt H' a (n + 11) → Q (.str (wayS ws)) H'
theorem BoxAt.ne {H : Hp} {a b : Addr} {n : Nat} {o : HO} (x : BoxAt H a n) (e : H b = some o) (h : ∀ xs, o ≠ .lst xs) : b ≠ a := fun z => by
  obtain ⟨b0, b1, c, e2, _⟩ := x
  rw [z, e2] at e
  exact h _ (Option.some.inj e).symm
theorem kept_free {H H' : Hp} {a t : Addr} {n : Nat} (k : Kept (· = a) H H') (B : BoxAt H' a n) (h : H' t = none) : H t = none := by
  cases e : H t with
  | none => rfl
  | some o =>
    obtain ⟨b0, b1, c, e2, _⟩ := B
    have nt : t ≠ a := fun z => by rw [z, e2] at h; cases h
    rw [k _ _ e nt] at h
    cases h
theorem BoxAt.out {H : Hp} {a p : Addr} {n : Nat} {o : HO} (x : BoxAt H a n) (h : p ≠ a) : BoxAt (upd H p o) a n := by
  obtain ⟨b0, b1, c, e2, r⟩ := x
  exact ⟨b0, b1, c, by rw [upd_ne h.symm]; exact e2, r⟩
theorem BoxAt.nn {H : Hp} {a b : Addr} {n : Nat} (x : BoxAt H a n) (e : H b = none) : b ≠ a := fun z => by
  obtain ⟨b0, b1, c, e2, _⟩ := x
  rw [z, e2] at e
  cases e
section
variable {P : Program} {w : World} {K : PySem.W.Frag} {mg : Str → Option Value} {base : Heap}
theorem ok_law_whole (S : TX K mg) : OkF P w K mg base 1 (He.ga K "_law_whole") (p_law_whole) := by
  refine okF (F_law_whole S) sc_law_whole (by tm_at "len") (fun _ _ _ _ _ _ us hl => match us, hl with | [_], _ => rfl) (fun cdv A outer s H vs Q E hr h => ?_)
  obtain ⟨n, rfl, q⟩ := h
  refine ⟨_, (pss_one (ps_ret (pe_and (pe_callB (kIsi (K := K) rfl) rfl (fr_isinstance S) bt_isinstance (pa_cons (pv 0) (pa_cons (pe_bltn (v := .ty "int") rfl (fr_int S) bt_int rfl) pa_nil))) (pe_one (pe_not (pe_callB (kIsi (K := K) rfl) rfl (fr_isinstance S) bt_isinstance (pa_cons (pv 0) (pa_cons (pe_bltn (v := .ty "bool") rfl (fr_bool S) bt_bool rfl) pa_nil)))))))), ?_⟩
  tm_at "go"
  exact q
theorem ok_law_value (S : TX K mg) : OkF P w K mg base 2 (He.ga K "_law_value") (p_law_value) := by
  refine okF (F_law_value S) sc_law_value (by tm_at "len") (fun _ _ _ _ _ _ us hl => match us, hl with | [_], _ => rfl) (fun cdv A outer s H vs Q E hr h => ?_)
  obtain ⟨a, n, rfl, B, hn, q⟩ := h
  refine ⟨_, (pss_cons (ps_set (i := 1) sc_law_value.nd rfl (Or.inl rfl) (pe_f (ok_law_take S) (hr.mono (by decide)) rfl (glo_law_take S) (pa_cons (pv 0) (pa_cons pe_int pa_nil))))
    (pss_cons (ps_if (pt_cmpR op_eq (pv 1) pe_int (nomark _)) (pss_one (ps_ret (pe_op op_sub (pe_f (ok_law_take S) (hr.mono (by decide)) rfl (glo_law_take S) (pa_cons (pv 0) (pa_cons pe_int pa_nil))) pe_int))) pss_nil)
    (pss_cons (ps_if (pt_cmpR op_eq (pv 1) pe_int (nomark _)) (pss_one (ps_ret (pe_ix (kIxL (K := K) rfl) (pe_lst (pa_cons pe_int (pa_cons (pe_un un_neg pe_int) pa_nil))) (pe_f (ok_law_take S) (hr.mono (by decide)) rfl (glo_law_take S) (pa_cons (pv 0) (pa_cons pe_int pa_nil))) (fun _ _ => rfl)))) pss_nil)
    (pss_one (ps_ret (pe_op op_sub (pe_f (ok_law_take S) (hr.mono (by decide)) rfl (glo_law_take S) (pa_cons (pv 0) (pa_cons pe_int pa_nil))) pe_int)))))), ?_⟩
  tm_at "go"
  refine ⟨a, n, 4, rfl, B, by omega, by decide, by decide, fun d H1 hd k1 B1 => ?_⟩
  tm_at "go"
  by_cases h0 : d = 0
  · subst h0
    tm_at "go"
    refine ⟨a, n + 1, 9, rfl, B1, by omega, by decide, by decide, fun d H2 hd k2 B2 => ?_⟩
    tm_at "go"
    exact q _ H2 (by omega) (by omega) (k1.trans k2) B2
  refine gIfF (decide_eq_false (fun e => h0 (by injection e with e; omega))) ?_
  tm_at "go"
  by_cases h1 : d = 1
  · subst h1
    tm_at "go"
    refine ⟨szL rfl, fun L hL => ?_⟩
    have eL := upd_same (H := H1) (a := L) (o := .lst [V.int 100000, V.int (-100000)])
    have sL := Same.new (H := H1) (p := L) (o := .lst [V.int 100000, V.int (-100000)]) hL
    have La := B1.nn hL
    generalize upd H1 L _ = H2 at eL sL ⊢
    tm_at "go"
    refine ⟨a, n + 1, 2, rfl, B1.same sL, by omega, by decide, by decide, fun d H3 hd k3 B3 => ?_⟩
    have k := (k1.trans (Kept.of sL)).trans k3
    have e3 := k3 _ _ eL La
    match d, hd with
    | 0, _ => exact gIxL (SqL.of e3) (i := 0) rfl (q _ H3 (by decide) (by decide) k B3)
    | 1, _ => exact gIxL (SqL.of e3) (i := 1) rfl (q _ H3 (by decide) (by decide) k B3)
  refine gIfF (decide_eq_false (fun e => h1 (by injection e with e; omega))) ?_
  tm_at "go"
  refine ⟨a, n + 1, 200001, rfl, B1, by omega, by decide, by decide, fun d H2 hd k2 B2 => ?_⟩
  tm_at "go"
  exact q _ H2 (by omega) (by omega) (k1.trans k2) B2
theorem ok_law_shape (S : TX K mg) : OkF P w K mg base 2 (He.ga K "_law_shape") (p_law_shape) := by
  refine okF (F_law_shape S) sc_law_shape (by tm_at "len") (fun _ _ _ _ _ _ us hl => match us, hl with | [_], _ => rfl) (fun cdv A outer s H vs Q E hr h => ?_)
  obtain ⟨a, n, rfl, B, hn, q⟩ := h
  refine ⟨_, (pss_cons (ps_set (i := 1) sc_law_shape.nd rfl (Or.inl rfl) (pe_f (ok_law_take S) (hr.mono (by decide)) rfl (glo_law_take S) (pa_cons (pv 0) (pa_cons pe_int pa_nil))))
    (pss_cons (ps_if (pt_cmpR op_lt (pv 1) pe_int (nomark _)) (pss_one (ps_ret (pe_ix (kIxL (K := K) rfl) (pe_lst (pa_cons (pe_tup (pa_cons pe_int (pa_cons pe_int pa_nil))) (pa_cons (pe_tup (pa_cons pe_int (pa_cons pe_int pa_nil))) pa_nil))) (pv 1) (fun _ _ => rfl)))) pss_nil)
    (pss_one (ps_ret (pe_tup (pa_cons (pe_op op_add pe_int (pe_f (ok_law_take S) (hr.mono (by decide)) rfl (glo_law_take S) (pa_cons (pv 0) (pa_cons pe_int pa_nil)))) (pa_cons (pe_op op_add pe_int (pe_f (ok_law_take S) (hr.mono (by decide)) rfl (glo_law_take S) (pa_cons (pv 0) (pa_cons pe_int pa_nil)))) pa_nil))))))), ?_⟩
  tm_at "go"
  refine ⟨a, n, 16, rfl, B, by omega, by decide, by decide, fun d H1 hd k1 B1 => ?_⟩
  tm_at "go"
  by_cases h0 : d < 2
  · refine gIfT (decide_eq_true (by omega)) ?_
    tm_at "go"
    refine ⟨szL rfl, fun t1 h1 => ?_⟩
    generalize hg1 : upd _ _ _ = H2
    obtain ⟨s2, e2⟩ := newF hg1 h1
    tm_at "go"
    refine ⟨szL rfl, fun t2 h2 => ?_⟩
    generalize hg2 : upd _ _ _ = H3
    obtain ⟨s3, e3⟩ := newF hg2 h2
    tm_at "go"
    refine ⟨szL rfl, fun L hL => ?_⟩
    generalize hg3 : upd _ _ _ = H4
    obtain ⟨s4, e4⟩ := newF hg3 hL
    have k := k1.trans (Kept.of ((s2.trans s3).trans s4))
    have B4 := B1.same ((s2.trans s3).trans s4)
    tm_at "go"
    match d, h0 with
    | 0, _ => exact gIxL (SqL.of e4) (i := 0) rfl (q t1 (64, 2) H4 (.inr (.inl rfl)) (by decide) (by decide) k (B4.mono (by omega)) (kept_free k1 B1 h1) (s4 _ _ (s3 _ _ e2)))
    | 1, _ => exact gIxL (SqL.of e4) (i := 1) rfl (q t2 (1, 64) H4 (.inr (.inr rfl)) (by decide) (by decide) k (B4.mono (by omega)) (kept_free k1 B1 (s2.free h2)) (s4 _ _ e3))
  refine gIfF (decide_eq_false (by omega)) ?_
  tm_at "go"
  refine ⟨a, n + 1, 9, rfl, B1, by omega, by decide, by decide, fun d1 H2 hd1 k2 B2 => ?_⟩
  tm_at "go"
  refine ⟨a, n + 2, 9, rfl, B2, by omega, by decide, by decide, fun d2 H3 hd2 k3 B3 => ?_⟩
  tm_at "go"
  refine ⟨szL rfl, fun t ht => ?_⟩
  have k := (k1.trans k2).trans k3
  refine q t (1 + d1, 1 + d2) _ (.inl ⟨by dsimp only; omega, by dsimp only; omega⟩) (by dsimp only; omega) (by dsimp only; omega) (k.trans (Kept.of (Same.new ht))) (B3.same (Same.new ht)) (kept_free k B3 ht) ?_
  rw [upd_same]
  rfl
def someB (b1 b2 : Bool) : List L := (if b1 = true then [.r] else []) ++ (if b2 = true then [.p] else []) ++ (if (b1 && b2) = true then [.b] else [])
theorem someB_T : ∀ b1 b2 : Bool, T ((if b1 = true then tl "r" else []) ++ (if b2 = true then tl "p" else []) ++ (if (b1 && b2) = true then tl "b" else [])) = wayS (someB b1 b2) := by
  intro b1 b2
  cases b1 <;> cases b2 <;> rfl
theorem someB_mem : ∀ b1 b2 : Bool, ∀ l ∈ someB b1 b2, (l.isR = true → b1 = true) ∧ (l.isP = true → b2 = true) := by decide
theorem someB_len : ∀ b1 b2 : Bool, (someB b1 b2).length ≤ 3 := by decide
theorem gRepB {z : Str} {b : Bool} {H : Hp} {Q : VK} (hz : z.length ≤ 1000) (h : Q (.str (T (if b = true then tl z else []))) H) : rRepS (.str z) (.int (if b = true then 1 else 0)) H Q := by
  refine ⟨z, _, rfl, rfl, by cases b <;> simp, hz, ?_⟩
  cases b with
  | true => rw [if_neg (by decide)]; rw [if_pos rfl, show T (tl z) = z from mk_tl z] at h; exact h
  | false => rw [if_pos (by decide)]; exact h
theorem gAnd2 {x y : Int} {σ : L2.St} {H : Hp} {Q : VK} (e3 : σ[3]? = some (some (.int x))) (e2 : σ[2]? = some (some (.int y))) (h : Q (.bl (decide (1 < x) && decide (1 < y))) H) :
    tAndV (tOp (rI0 fun i j => V.bl (decide (j < i))) (tVar 3) (tC (V.int 1))) (tOp (rI0 fun i j => V.bl (decide (j < i))) (tVar 2) (tC (V.int 1))) σ H Q := by
  refine gAndV ?_
  refine gOp (gVar e3 (gC (gI0 ?_)))
  refine ⟨_, rfl, ?_⟩
  cases hx : decide (1 < x) with
  | true =>
    refine gTrue (gOp (gVar e2 (gC (gI0 ?_))))
    rw [hx] at h
    exact h
  | false =>
    refine gFalse ?_
    rw [hx] at h
    exact h
theorem way_snoc {ws : List L} {l : L} : wayS ws ++ (⟨#[l.code]⟩ : Str) = wayS (ws ++ [l]) := by
  show T (ws.map L.code) ++ T [l.code] = T ((ws ++ [l]).map L.code)
  rw [T_add, List.map_append]
  rfl
theorem neP {l : L} : (!decide (V.str ⟨#[l.code]⟩ = V.str "p")) = l.isR := by cases l <;> rfl
theorem neR {l : L} : (!decide (V.str ⟨#[l.code]⟩ = V.str "r")) = l.isP := by cases l <;> rfl
theorem ok_law_way (S : TX K mg) : OkF P w K mg base 2 (He.ga K "_law_way") (p_law_way) := by
  refine okF (F_law_way S) sc_law_way (by tm_at "len") (fun _ _ _ _ _ _ us hl => match us, hl with | [_, _], _ => rfl) (fun cdv A outer s H vs Q E hr h => ?_)
  obtain ⟨a, t, n, c, rfl, B, hn, et, z, q⟩ := h
  refine ⟨_, (pss_cons (ps_asg (pv 1) (kPTup (K := K) (n := 2) rfl rfl (pgs_cons (pg_name (i := 2) sc_law_way.nd rfl (Or.inl rfl)) (pgs_cons (pg_name (i := 3) sc_law_way.nd rfl (Or.inl rfl)) pgs_nil))))
    (pss_cons (ps_set (i := 4) sc_law_way.nd rfl (Or.inl rfl) pe_str)
    (pss_cons (ps_for PassesOwn.never rfl (pi_range1 rfl (fr_range S) (pa_cons (pe_f (ok_law_take S) (hr.mono (by decide)) rfl (glo_law_take S) (pa_cons (pv 0) (pa_cons pe_int pa_nil))) pa_nil)) (pg_name (i := 5) sc_law_way.nd rfl (Or.inl rfl)) (pss_cons (ps_set (i := 6) sc_law_way.nd rfl (Or.inl rfl) (pe_op op_add_str (pe_op op_add_str (pe_op op_repS pe_str (pe_callTy call_int1 rfl (fr_int S) bt_int (pa_cons (pe_cmpR op_gt (pv 3) pe_int (nomark _)) pa_nil))) (pe_op op_repS pe_str (pe_callTy call_int1 rfl (fr_int S) bt_int (pa_cons (pe_cmpR op_gt (pv 2) pe_int (nomark _)) pa_nil)))) (pe_op op_repS pe_str (pe_callTy call_int1 rfl (fr_int S) bt_int (pa_cons (pe_and (pe_cmpR op_gt (pv 3) pe_int (nomark _)) (pe_one (pe_cmpR op_gt (pv 2) pe_int (nomark _)))) pa_nil)))))
    (pss_one (ps_if (pt_cmpR op_ne (pv 6) pe_str (nomark _)) (pss_cons (ps_set (i := 7) sc_law_way.nd rfl (Or.inl rfl) (pe_ix ix_str (pv 6) (pe_f (ok_law_take S) (hr.mono (by decide)) rfl (glo_law_take S) (pa_cons (pv 0) (pa_cons (pe_callB (kLen (K := K) rfl) rfl (fr_len S) bt_len (pa_cons (pv 6) pa_nil)) pa_nil))) (fun _ _ => rfl)))
    (pss_cons (ps_set (i := 4) sc_law_way.nd rfl (Or.inl rfl) (pe_op op_add_str (pv 4) (pv 7)))
    (pss_cons (ps_set (i := 3) sc_law_way.nd rfl (Or.inl rfl) (pe_ix (kIxL (K := K) rfl) (pe_lst (pa_cons (pv 3) (pa_cons (pe_op op_fdiv (pe_op op_add (pv 3) pe_int) pe_int) pa_nil))) (pe_callTy call_int1 rfl (fr_int S) bt_int (pa_cons (pe_cmpR op_ne (pv 7) pe_str (nomark _)) pa_nil)) (fun _ _ => rfl)))
    (pss_one (ps_set (i := 2) sc_law_way.nd rfl (Or.inl rfl) (pe_ix (kIxL (K := K) rfl) (pe_lst (pa_cons (pv 2) (pa_cons (pe_op op_fdiv (pe_op op_add (pv 2) pe_int) pe_int) pa_nil))) (pe_callTy call_int1 rfl (fr_int S) bt_int (pa_cons (pe_cmpR op_ne (pv 7) pe_str (nomark _)) pa_nil)) (fun _ _ => rfl))))))) pss_nil))))
    (pss_one (ps_ret (pv 4)))))), ?_⟩
  have zh := z.h2
  have zw := z.w2
  tm_at "go"
  refine gTp (SqT.of et) rfl ?_
  tm_at "go"
  refine ⟨a, n, 11, rfl, B, by omega, by decide, by decide, fun d H1 hd k1 B1 => ?_⟩
  refine gR1 (by omega) ?_
  rw [Int.toNat_natCast]
  refine forIt (wRange (m := d)) (fun i σ H' => Kept (· = a) H H' ∧ BoxAt H' a (n + 1 + i) ∧ ∃ (ws : List L) (v1 v2 v3 : Option V), WOk c ws ∧ ws.length ≤ i ∧ σ = [some (.ref a), some (.ref t), some (.int ((cnr c ws ws.length).1 : Nat)), some (.int ((cnr c ws ws.length).2 : Nat)), some (.str (wayS ws)), v1, v2, v3]) ⟨k1, B1, [], none, none, none, trivial, Nat.le_refl _, rfl⟩ (fun _ _ _ _ _ => trivial) ?_ ?_
  · rintro i x σ H2 H3 hi ⟨k2, B2, ws, v1, v2, v3, ok, wl, rfl⟩ ⟨rfl, rfl⟩
    have k1' := cnr_le ws ws.length c
    have nx : ∀ l, cnr c (ws ++ [l]) (ws ++ [l]).length = l.next (cnr c ws ws.length) := fun l => by
      have e := cnr_succ (c := c) (ws := ws ++ [l]) (k := ws.length) (l := l) (by simp)
      rw [cnr_app (Nat.le_refl _)] at e
      rw [List.length_append]
      exact e
    have okl : ∀ l : L, (l.isR = true → 2 ≤ (cnr c ws ws.length).2) → (l.isP = true → 2 ≤ (cnr c ws ws.length).1) → WOk c (ws ++ [l]) := fun l h1 h2 => ok.app ⟨h1, h2, trivial⟩
    generalize hcc : cnr c ws ws.length = cc at *
    tm_at "go"
    generalize hb1 : decide (1 < ((cc.2 : Nat) : Int)) = b1
    generalize hb2 : decide (1 < ((cc.1 : Nat) : Int)) = b2
    refine .inr ⟨_, rfl, ?_⟩
    refine gRepB (by decide) ?_
    tm_at "go"
    rw [hb2]
    refine .inr ⟨_, rfl, ?_⟩
    refine gRepB (by decide) ?_
    refine ⟨_, _, rfl, rfl, by rw [T_len, T_len]; exact line_le (by split <;> split <;> decide), ?_⟩
    rw [T_add]
    tm_at "gi"
    refine gCB ?_
    tm_at "gi"
    refine gAnd2 rfl rfl ?_
    tm_at "gi"
    rw [hb1, hb2]
    refine .inr ⟨_, rfl, ?_⟩
    refine gRepB (by decide) ?_
    refine ⟨_, _, rfl, rfl, by rw [T_len, T_len, List.length_append]; exact line_le (by split <;> split <;> split <;> decide), ?_⟩
    rw [T_add, someB_T]
    have sm := someB_mem b1 b2
    have sl := someB_len b1 b2
    generalize someB b1 b2 = sb at *
    have same : Kept (· = a) H H3 ∧ BoxAt H3 a (n + 1 + (i + 1)) := ⟨k2, B2.mono (by omega)⟩
    tm_at "go"
    by_cases hs : sb = []
    · subst hs
      tm_at "go"
      exact ⟨same.1, same.2, ws, _, _, _, ok, by omega, by rw [hcc]; rfl⟩
    have hsn : V.str (wayS sb) ≠ V.str "" := fun e => by
      injection e with e
      have := congrArg Str.length e
      rw [way_len] at this
      exact hs (List.eq_nil_of_length_eq_zero this)
    refine gIfT (by rw [decide_eq_false hsn]; rfl) ?_
    tm_at "go"
    refine ⟨_, sb.length, rfl, ⟨by rw [way_len]; exact line_le (by omega), by rw [way_len]⟩, ?_⟩
    tm_at "go"
    refine ⟨a, n + 1 + i, sb.length, rfl, B2, by omega, List.length_pos_iff.mpr hs, by omega, fun d2 H4 hd2 k4 B4 => ?_⟩
    have hl : sb[d2]? = some sb[d2] := List.getElem?_eq_getElem hd2
    have ml := sm _ (List.mem_of_getElem? hl)
    refine ⟨wayS sb, (d2 : Nat), (sb[d2]).code, rfl, rfl, by rw [way_len]; exact line_le (by omega), at_get (by rw [List.getElem?_map, hl]; rfl), ?_⟩
    generalize sb[d2] = l at *
    tm_at "go"
    refine ⟨_, _, rfl, rfl, by rw [way_len]; show _ + 1 ≤ sizeLine; exact line_le (by omega), ?_⟩
    rw [way_snoc]
    tm_at "go"
    refine ⟨szL rfl, fun L1 hL1 => ?_⟩
    generalize hg1 : upd _ _ _ = H5
    obtain ⟨s5, e5⟩ := newF hg1 hL1
    tm_at "go"
    refine .inr ⟨_, rfl, ?_⟩
    have pick : ∀ {b : Bool} {i j : Int}, atI [V.int i, V.int j] (if b = true then 1 else 0) = some (.int (if b = true then j else i)) := fun {b i j} => by cases b <;> rfl
    refine gIxL (SqL.of e5) pick ?_
    rw [neP]
    tm_at "go"
    refine ⟨szL rfl, fun L2 hL2 => ?_⟩
    generalize hg2 : upd _ _ _ = H6
    obtain ⟨s6, e6⟩ := newF hg2 hL2
    tm_at "go"
    refine .inr ⟨_, rfl, ?_⟩
    refine gIxL (SqL.of e6) pick ?_
    rw [neR]
    tm_at "go"
    have sr := s5.trans s6
    refine ⟨(k2.trans k4).trans (Kept.of sr), (B4.same sr).mono (by omega), ws ++ [l], some (.int (i : Nat)), some (.str (wayS sb)), some (.str ⟨#[l.code]⟩), okl l (fun h => ?_) (fun h => ?_), by rw [List.length_append]; show ws.length + 1 ≤ _; omega, ?_⟩
    · have := ml.1 h
      rw [← hb1] at this
      have := of_decide_eq_true this
      omega
    · have := ml.2 h
      rw [← hb2] at this
      have := of_decide_eq_true this
      omega
    · rw [nx]
      cases l with
      | r =>
        show [_, _, _, _, _, _, _, _] = [_, _, _, some (V.int ((hf cc.2 : Nat) : Int)), _, _, _, _]
        rw [← hf_int]
        rfl
      | p =>
        show [_, _, _, _, _, _, _, _] = [_, _, some (V.int ((hf cc.1 : Nat) : Int)), _, _, _, _, _]
        rw [← hf_int]
        rfl
      | b =>
        show [_, _, _, _, _, _, _, _] = [_, _, some (V.int ((hf cc.1 : Nat) : Int)), some (V.int ((hf cc.2 : Nat) : Int)), _, _, _, _]
        rw [← hf_int, ← hf_int]
        rfl
  · rintro σ H2 ⟨k2, B2, ws, v1, v2, v3, ok, wl, rfl⟩
    tm_at "go"
    exact q ws H2 ok (by omega) k2 (B2.mono (by omega))
def relS (scope outer : Scope) : Scope := { scope with names := scope.names.map fun (n, k) => if (k == .free && outer.kind == .function && outer.names.lookup n == some .cell) then (n, .cell) else (n, k) }
def lr_sc : Scope := match (defBody s_law_rows).getLast? with
  | some (.Return (some (.ListComp _ _ sc _)) _) => sc
  | _ => defScope s_law_rows
def p_law_rows : Pm := fun vs H Q => ∃ (a t : Addr) (n : Nat) (c : Nat × Nat), vs = [.ref a, .ref t] ∧ BoxAt H a n ∧ n ≤ 100 ∧ H t = some (cT c) ∧ Sz c.1 c.2 ∧ ∀ (D : Addr) (rb : Nat → Addr) (g : G2) H', Kept (· = a) H H' → BoxAt H' a (n + 200) → H D = none → Rows H' D rb c.1 c.2 g → (∀ y, y < c.1 → H (rb y) = none) → Bd 100000 c.1 c.2 g → Q (.ref D) H'
theorem ok_law_rows (S : TX K mg) : OkF P w K mg base 3 (He.ga K "_law_rows") (p_law_rows) := by
  refine okF (F_law_rows S) sc_law_rows (by tm_at "len") (fun _ _ _ _ _ _ us hl => match us, hl with | [_, _], _ => rfl) (fun cdv A outer s H vs Q E hr h => ?_)
  obtain ⟨a, t, n, c, rfl, B, hn, et, z, q⟩ := h
  refine ⟨_, (pss_cons (ps_if (pt_cmpR op_gt (pe_op op_mul (pe_ix (kIxT (K := K) rfl) (pv 1) pe_int (fun _ _ => rfl)) (pe_ix (kIxT (K := K) rfl) (pv 1) pe_int (fun _ _ => rfl))) pe_int (nomark _)) (pss_cons (ps_set (i := 2) sc_law_rows.nd rfl (Or.inr rfl) (pe_f (ok_law_take S) (hr.mono (by decide)) rfl (glo_law_take S) (pa_cons (pv 0) (pa_cons (pe_op op_pow pe_int pe_int) pa_nil))))
    (pss_cons (ps_set (i := 3) sc_law_rows.nd rfl (Or.inr rfl) (pe_ix (kIxL (K := K) rfl) (pe_lst (pa_cons pe_int (pa_cons pe_int pa_nil))) (pe_f (ok_law_take S) (hr.mono (by decide)) rfl (glo_law_take S) (pa_cons (pv 0) (pa_cons pe_int pa_nil))) (fun _ _ => rfl)))
    (pss_cons (ps_set (i := 4) sc_law_rows.nd rfl (Or.inl rfl) (pe_lst pa_nil))
    (pss_cons (ps_for PassesOwn.never rfl (pi_range1 rfl (fr_range S) (pa_cons (pe_ix (kIxT (K := K) rfl) (pv 1) pe_int (fun _ _ => rfl)) pa_nil)) (pg_name (i := 5) sc_law_rows.nd rfl (Or.inr rfl)) (pss_cons (ps_setLc (i := 6) (own := [("_law_x", 7)]) (g := gName 7) (tt := tYes)  rfl sc_law_rows.nd rfl rfl (sw_true rfl rfl rfl (by decide +kernel)) (pi_range1 rfl (fr_range S) (pa_cons (pe_ix (kIxT (K := K) rfl) (pv 1) pe_int (fun _ _ => rfl)) pa_nil)) (blkOk_by (own := [("_law_x", 7)]) (N := ["_law_box_here", "_law_size", "_law_seed", "_law_most", "_law_rows_here", "_law_y", "_law_some", "_law_x", "_law_number"]) (sc := defScope s_law_rows) (by decide +kernel)) (fun _ _ _ _ _ => (pg_name (i := 7) sc_law_rows.nd rfl (Or.inl rfl))) (fun _ _ _ _ _ => pts_nil) (fun _ _ _ _ _ => (pe_op op_mod (pe_op op_pow (pe_op op_add (pv 2) (pe_op op_mul pe_int (pe_op op_add (pe_op op_mul pe_int (pv 5)) (pv 7)))) pe_int) pe_int)))
    (pss_one (ps_expr (kBM (K := K) rfl PySem.F.plainAttrs_list PySem.F.slot_list_append PySem.F.type_list_append mt_append (pv 4) (pa_cons (pe_lc (own := [("_law_number", 8)]) (g := gName 8) (tt := tYes) rfl sc_law_rows.nd (kList (K := K) rfl (pv 6)) (blkOk_by (own := [("_law_number", 8)]) (N := ["_law_box_here", "_law_size", "_law_seed", "_law_most", "_law_rows_here", "_law_y", "_law_some", "_law_x", "_law_number"]) (sc := defScope s_law_rows) (by decide +kernel)) (fun _ _ _ _ _ => (pg_name (i := 8) sc_law_rows.nd rfl (Or.inl rfl))) (fun _ _ _ _ _ => pts_nil) (fun _ _ _ _ _ => (pe_op op_sub (pe_op op_mod (pv 8) (pv 3)) (pe_op op_fdiv (pv 3) pe_int)))) pa_nil))))))
    (pss_one (ps_ret (pv 4))))))) pss_nil)
    (pss_one (ps_ret (pe_lc (own := [("_law_y", 5)]) (g := gName 5) (tt := tYes) rfl sc_law_rows.nd (pi_range1 rfl (fr_range S) (pa_cons (pe_ix (kIxT (K := K) rfl) (pv 1) pe_int (fun _ _ => rfl)) pa_nil)) (blkOk_by (own := [("_law_y", 5)]) (N := ["_law_box_here", "_law_size", "_law_seed", "_law_most", "_law_rows_here", "_law_y", "_law_some", "_law_x", "_law_number"]) (sc := defScope s_law_rows) (by decide +kernel)) (fun _ _ _ _ _ => (pg_name (i := 5) sc_law_rows.nd rfl (Or.inl rfl))) (fun _ _ _ _ _ => pts_nil) (fun _ _ _ _ _ => (pe_lc (own := [("_law_x", 7)]) (g := gName 7) (tt := tYes) rfl sc_law_rows.nd (pi_range1 rfl (fr_range S) (pa_cons (pe_ix (kIxT (K := K) rfl) (pv 1) pe_int (fun _ _ => rfl)) pa_nil)) (blkOk_by (own := [("_law_x", 7)]) (N := ["_law_box_here", "_law_size", "_law_seed", "_law_most", "_law_rows_here", "_law_y", "_law_some", "_law_x", "_law_number"]) (sc := relS lr_sc (defScope s_law_rows)) (by decide +kernel)) (fun _ _ _ _ _ => (pg_name (i := 7) sc_law_rows.nd rfl (Or.inl rfl))) (fun _ _ _ _ _ => pts_nil) (fun _ _ _ _ _ => (pe_f (ok_law_value S) (hr.mono (by decide)) rfl (glo_law_value S) (pa_cons (pv 0) pa_nil))))))))), ?_⟩
  have zh := z.h2
  have zw := z.w2
  tm_at "go"
  refine gIxT (SqT.of et) (i := 0) rfl ?_
  tm_at "go"
  refine gIxT (SqT.of et) (i := 1) rfl ?_
  refine gI (.inl ⟨by omega, by omega⟩) ?_
  tm_at "go"
  by_cases hbig : 81 < c.1 * c.2
  · refine gIfT (decide_eq_true (by rw [← Int.natCast_mul]; omega)) ?_
    tm_at "go"
    refine gI ⟨by decide, by decide, by decide⟩ ?_
    tm_at "go"
    refine ⟨a, n, 100000000, rfl, B, by omega, by decide, by decide, fun sd H1 hsd k1 B1 => ?_⟩
    tm_at "go"
    refine ⟨szL rfl, fun L1 hL1 => ?_⟩
    generalize hg1 : upd _ _ _ = H2
    obtain ⟨s2, e2⟩ := newF hg1 hL1
    have La := B1.nn hL1
    tm_at "go"
    refine ⟨a, n + 1, 2, rfl, B1.same s2, by omega, by decide, by decide, fun d H3 hd k3 B3 => ?_⟩
    have e3 := k3 _ _ e2 La
    have kk := (k1.trans (Kept.of s2)).trans k3
    have pickm : ∃ most : Int, atI [V.int 3, V.int 200001] ((d : Nat) : Int) = some (.int most) ∧ (most = 3 ∨ most = 200001) := by
      match d, hd with
      | 0, _ => exact ⟨3, rfl, .inl rfl⟩
      | 1, _ => exact ⟨200001, rfl, .inr rfl⟩
    obtain ⟨most, em, hm⟩ := pickm
    refine gIxL (SqL.of e3) em ?_
    tm_at "go"
    refine ⟨szL rfl, fun D hD => ?_⟩
    tm_at "go"
    have N0 : NewL H3 (upd H3 D (.lst [])) D 0 (fun _ => 0) fun y => .lst (irow c.2 fun x => ((sd : Int) + 7919 * (64 * (y : Int) + (x : Int))) ^ (3 : Int).toNat % 2147483629 % most - most / 2) := NewL.nil hD
    refine gIxT (SqT.of (N0.same _ _ (kk _ _ et (B.ne et fun xs z => by cases z)))) (i := 0) rfl ?_
    refine gR1 (by omega) ?_
    rw [Int.toNat_natCast]
    refine forIt (wRange (m := c.1)) (fun i σ H' => (∃ rb, NewL H3 H' D i rb fun y => .lst (irow c.2 fun x => ((sd : Int) + 7919 * (64 * (y : Int) + (x : Int))) ^ (3 : Int).toNat % 2147483629 % most - most / 2)) ∧ ∃ v5 v6 v7 v8, σ = [some (.ref a), some (.ref t), some (.int (sd : Nat)), some (.int most), some (.ref D), v5, v6, v7, v8]) ⟨⟨_, N0⟩, none, none, none, none, rfl⟩ (fun _ _ _ _ _ => trivial) ?_ ?_
    · rintro i x σ H4 H5 hi ⟨⟨rb, N⟩, v5, v6, v7, v8, rfl⟩ ⟨rfl, rfl⟩
      tm_at "go"
      have et5 := N.same _ _ (kk _ _ et (B.ne et fun xs z => by cases z))
      refine gIxT (SqT.of et5) (i := 1) rfl ?_
      refine gR1 (by omega) ?_
      rw [Int.toNat_natCast]
      intro S1 hS1
      refine lcIt (wRange (m := c.2)) (fun j H' => Same H5 H' ∧ H' S1 = some (.lst (irow j fun x => ((sd : Int) + 7919 * (64 * (i : Int) + (x : Int))) ^ (3 : Int).toNat % 2147483629))) ⟨Same.new hS1, upd_same⟩ (fun _ _ _ _ => trivial) ?_ ?_
      · rintro j x H6 H7 hj ⟨s6, e6⟩ ⟨rfl, rfl⟩
        tm_at "go"
        refine ⟨rfl, ?_⟩
        tm_at "go"
        refine gI (.inl ⟨by decide, by decide⟩) ?_
        tm_at "go"
        refine gI (.inl ⟨by decide, by decide⟩) ?_
        tm_at "go"
        refine gI ⟨by decide, by decide, by omega⟩ ?_
        tm_at "go"
        refine gI (by decide) ?_
        refine ⟨_, e6, by rw [tab_len]; exact line_lt (by omega), s6.mut hS1, ?_⟩
        rw [upd_same]
        unfold irow
        rw [← tab_snoc]
      · rintro H6 ⟨s6, e6⟩
        tm_at "go"
        have N6 := N.same' s6
        refine ⟨.inl ⟨rfl, _, SqL.of N6.top⟩, ?_⟩
        tm_at "go"
        refine gL1 (SqL.of e6) ?_
        intro S2 hS2
        have hS2' := hS2
        refine lcIt (wTab (m := c.2) (f := fun x => .int (((sd : Int) + 7919 * (64 * (i : Int) + (x : Int))) ^ (3 : Int).toNat % 2147483629))) (fun j H' => Same H6 H' ∧ H' S2 = some (.lst (irow j fun x => ((sd : Int) + 7919 * (64 * (i : Int) + (x : Int))) ^ (3 : Int).toNat % 2147483629 % most - most / 2))) ⟨Same.new hS2, upd_same⟩ (fun j H' _ z => SqL.of (z.1 _ _ e6)) ?_ ?_
        · rintro j x H7 H8 hj ⟨s7, e7⟩ ⟨rfl, rfl⟩
          tm_at "go"
          refine ⟨rfl, ?_⟩
          tm_at "go"
          refine gI (by rcases hm with rfl | rfl <;> decide) ?_
          tm_at "go"
          refine ⟨_, e7, by rw [tab_len]; exact line_lt (by omega), s7.mut hS2, ?_⟩
          rw [upd_same]
          unfold irow
          rw [← tab_snoc]
        · rintro H7 ⟨s7, e7⟩
          tm_at "go"
          have N7 := N6.same' s7
          refine ⟨D, _, _, rfl, rfl, N7.top, by rw [tab_len]; exact line_lt (by omega), ⟨_, N6.push hS2 e7 s7⟩, _, _, _, _, rfl⟩
    · rintro σ H4 ⟨⟨rb, N⟩, v5, v6, v7, v8, rfl⟩
      tm_at "go"
      refine q D rb _ H4 (kk.trans (Kept.of N.same)) ((B3.same N.same).mono (by omega)) (kept_free kk B3 hD) ⟨N.top, N.it⟩ (fun y hy => kept_free kk B3 (N.fr y hy)) fun y x hy hx => ?_
      generalize ((sd : Int) + 7919 * (64 * (y : Int) + (x : Int))) ^ (3 : Int).toNat % 2147483629 = f
      rcases hm with rfl | rfl
      · omega
      · omega
  refine gIfF (decide_eq_false (by rw [← Int.natCast_mul]; omega)) ?_
  tm_at "go"
  refine gIxT (SqT.of et) (i := 0) rfl ?_
  refine gR1 (by omega) ?_
  rw [Int.toNat_natCast]
  intro D hD
  have Da := B.nn hD
  refine lcIt (wRange (m := c.1)) (fun i H' => Kept (· = a) H H' ∧ BoxAt H' a (n + 2 * (i * c.2)) ∧ ∃ (rb : Nat → Addr) (g : G2), H' D = some (.lst (tab i fun y => .ref (rb y))) ∧ ∀ y, y < i → H' (rb y) = some (.lst (irow c.2 (g y))) ∧ H (rb y) = none ∧ rb y ≠ D ∧ ∀ x, x < c.2 → -100000 ≤ g y x ∧ g y x ≤ 100000)
    ⟨(Kept.refl _ _).new hD, (B.same (Same.new hD)).mono (by omega), fun _ => 0, fun _ _ => 0, upd_same, fun y hy => absurd hy (by omega)⟩ (fun _ _ _ _ => trivial) ?_ ?_
  · rintro i x H1 H2 hi ⟨k1, B1, rb, g, e1, e2⟩ ⟨rfl, rfl⟩
    tm_at "go"
    refine ⟨rfl, ?_⟩
    tm_at "go"
    have r1 := row_le (n := c.2) hi
    refine gIxT (SqT.of (k1 _ _ et (B.ne et fun xs z => by cases z))) (i := 1) rfl ?_
    refine gR1 (by omega) ?_
    rw [Int.toNat_natCast]
    intro E hE
    have Ea := B1.nn hE
    have ED : E ≠ D := fun z => by rw [z, e1] at hE; cases hE
    refine lcIt (wRange (m := c.2)) (fun j H' => Kept (· = a) H2 H' ∧ BoxAt H' a (n + 2 * (i * c.2 + j)) ∧ ∃ f : Nat → Int, H' E = some (.lst (irow j f)) ∧ ∀ x, x < j → -100000 ≤ f x ∧ f x ≤ 100000) ⟨(Kept.refl _ _).new hE, B1.same (Same.new hE), fun _ => 0, upd_same, fun y hy => absurd hy (by omega)⟩ (fun _ _ _ _ => trivial) ?_ ?_
    · rintro j x H3 H4 hj ⟨k3, B3, f, e3, hf⟩ ⟨rfl, rfl⟩
      tm_at "go"
      refine ⟨rfl, ?_⟩
      tm_at "go"
      refine ⟨a, _, rfl, B3, by omega, fun v H5 v1 v2 k5 B5 => ?_⟩
      refine ⟨_, k5 _ _ e3 Ea, by rw [tab_len]; exact line_lt (by omega), fun b o e nb => ?_, (B5.mono (by omega)).out Ea, fun x => if x = j then v else f x, ?_, fun x hx => ?_⟩
      · rw [upd_ne (ne_of_none e hE)]
        exact k5 _ _ (k3 _ _ e nb) nb
      · rw [upd_same]
        unfold irow
        rw [← tab_snoc]
        refine congrArg (fun l => some (HO.lst l)) ?_
        congr 1
        · exact tab_congr fun x hx => by dsimp only; rw [if_neg (by omega)]
        · dsimp only; rw [if_pos rfl]
      · dsimp only
        split
        · exact ⟨v1, v2⟩
        · exact hf x (by omega)
    · rintro H3 ⟨k3, B3, f, e3, hf⟩
      have De := k3 _ _ e1 Da
      refine ⟨_, De, by rw [tab_len]; exact line_lt (by omega), fun b o e nb => ?_, (B3.mono (by have h9 : (i + 1) * c.2 = i * c.2 + c.2 := Nat.succ_mul i c.2; omega)).out Da, fun y => if y = i then E else rb y, fun y => if y = i then f else g y, ?_, fun y hy => ?_⟩
      · rw [upd_ne (ne_of_none e hD)]
        exact k3 _ _ (k1 _ _ e nb) nb
      · rw [upd_same, ← tab_snoc]
        refine congrArg (fun l => some (HO.lst l)) ?_
        congr 1
        · exact tab_congr fun x hx => by dsimp only; rw [if_neg (by omega)]
        · dsimp only; rw [if_pos rfl]
      · dsimp only
        by_cases z : y = i
        · rw [if_pos z, if_pos z, upd_ne ED]
          exact ⟨e3, kept_free k1 B1 hE, ED, hf⟩
        · rw [if_neg z, if_neg z]
          obtain ⟨a1, a2, a3, a4⟩ := e2 y (by omega)
          have na : rb y ≠ a := B.nn a2
          rw [upd_ne a3]
          exact ⟨k3 _ _ a1 na, a2, a3, a4⟩
  · rintro H1 ⟨k1, B1, rb, g, e1, e2⟩
    exact q D rb g H1 k1 (B1.mono (by omega)) hD ⟨e1, fun y hy => (e2 y hy).1⟩ (fun y hy => (e2 y hy).2.1) fun y x hy hx => (e2 y hy).2.2.2 x hx
end
end Kp
/-! sorted(set(xs)) of a list of ints -/
namespace Kp
open PySem PySem.Spec PyProof.Rows L2
section
variable {P : Program} {w : World} {A : Around} {E : Value → Shared → Prop} {s : Shared}
set_option maxRecDepth 100000 in
set_option maxHeartbeats 8000000 in
theorem set_of_lst {l : Addr} {xs : Array Value} (ns : List Int) {Q : Value → Shared → Prop} (hh : A.handled = none) (pl : s.heap.IsList l xs) (hi : IntsAre xs.toList ns) (hb : ns.length + 1 < scanBound)
    (q : ∀ (h' : Heap) (tk c : Nat), SetR w h' s.heap.objs.size (fun j => decide (j ∈ ns)) c → c ≤ ns.length → (∀ b o, s.heap.get? b = some o → h'.get? b = some o) → Q (.ref s.heap.objs.size) { s with heap := h', toks := tk }) : wpAny (model P w) A (call (.type "set") [.ref l]) Q E s := by
  have hz : xs.size = ns.length := by have z := IntsAre.length hi; rw [Array.length_toList] at z; exact z
  obtain ⟨c, tl, hmro⟩ := F.called_set.mro; have hmade := F.called_set.made; have hsub := F.called_set.sub
  refine wpAny_call (codeAny_of_tree ?_); show wpAny _ _ (callAny (.type "set") _) _ _ _
  refine wpAny_pure ⟨Code.quiet_builtin _ (by decide +kernel), codeAny_builtin F.entry_type_call ?_⟩; rw [Around.under_plain (weight_type_call_type "set" [.ref l] []) rfl]
  have h1 := F.called_set.notType; have h2 := F.called_set.canCreate; have hct := F.typeCall_set_1 (.ref l)
  repeat (any_goals (first | assumption | wp_step))
  refine codeAny_mono (code_set_led1 (.ref l) (E := E) (Q₁ := fun o t => o = .ref s.heap.objs.size ∧ t = { s with heap := s.heap.push { cls := .type "set", dict := none, data := .set #[] 0 (.fresh 0 0 (!w.params.followText "set-order")) } }) ⟨rfl, rfl⟩) fun r t hr => ?_
  cases r with
  | error e => exact hr
  | ok fl =>
    cases fl with
    | ret o =>
      obtain ⟨rfl, rfl⟩ := hr
      have gS : (s.heap.push { cls := .type "set", dict := none, data := .set #[] 0 (.fresh 0 0 (!w.params.followText "set-order")) }).get? s.heap.objs.size = some { cls := .type "set", dict := none, data := .set #[] 0 (.fresh 0 0 (!w.params.followText "set-order")) } := Heap.get?_push_size _ rfl
      have tS : Shared.TypeIs { s with heap := s.heap.push { cls := .type "set", dict := none, data := .set #[] 0 (.fresh 0 0 (!w.params.followText "set-order")) } } (.ref s.heap.objs.size) "set" := ⟨_, gS, rfl⟩
      have hli := F.called_set.init.lookup; have hbi := F.called_set.init.bind (.ref s.heap.objs.size)
      repeat (any_goals (first | assumption | wp_step))
      refine codeAny_mono (codeAny_call_builtin (R := wants (fun r t => r = .none ∧ ∃ h' tk c, t = { s with heap := h', toks := tk } ∧ SetR w h' s.heap.objs.size (fun j => decide (j ∈ ns)) c ∧ c ≤ ns.length ∧ (∀ b o, s.heap.get? b = some o → h'.get? b = some o)) E) F.called_set.init.plain F.entry_set_init (check_set_init_1 tS ?_)) fun r2 t2 hr2 => ?_
      · obtain ⟨ol, hol, hcl, nl, hdl⟩ := pl; obtain ⟨oc, od, oa, os⟩ := ol
        simp only at hcl hdl; subst hcl; subst hdl
        have hol2 : (s.heap.push { cls := .type "set", dict := none, data := .set #[] 0 (.fresh 0 0 (!w.params.followText "set-order")) }).get? l = some { cls := .type "list", dict := od, data := .seq xs nl, slots := os } := Heap.get?_push_of_some _ hol
        have hsls := F.sub_list_set; have hslf := F.sub_list_frozenset; have hne : (Value.type "list" == Value.type "dict") = false := by decide
        have pl2 : (s.heap.push { cls := .type "set", dict := none, data := .set #[] 0 (.fresh 0 0 (!w.params.followText "set-order")) }).IsList l xs := ⟨_, hol2, rfl, nl, rfl⟩
        unfold Builtin.«set.__init__» noKeywords Builtin.Frozenset.updateFrom; generalize hPI : pyIter = PI; wp_walk; subst hPI
        refine wpAny_pyIter_list pl2 ?_; refine wpAny_bind (wpAny_runValue ?_)
        have lS : l < s.heap.objs.size := Heap.lt_size hol; have h3 : A.in1.in1.in1.handled = none := by simp [hh]
        have nI : l ≠ (s.heap.push { cls := .type "set", dict := none, data := .set #[] 0 (.fresh 0 0 (!w.params.followText "set-order")) }).objs.size := by rw [Heap.size_push]; exact Nat.ne_of_lt (Nat.lt_succ_of_lt lS)
        have nS : s.heap.objs.size ∉ [(s.heap.push { cls := .type "set", dict := none, data := .set #[] 0 (.fresh 0 0 (!w.params.followText "set-order")) }).objs.size, l] := by rw [Heap.size_push]; simp only [List.mem_cons, List.mem_singleton, List.not_mem_nil, or_false, not_or]; exact ⟨Nat.ne_of_lt (Nat.lt_succ_self _), Nat.ne_of_gt lS⟩
        have vals : ∀ (i : Nat) (v : Value), xs[i]? = some v → ∃ k t, ns[i]? = some k ∧ v = .int k t := fun i v hv => by
          have hlt : i < ns.length := by rw [← hz]; exact (Array.getElem?_eq_some_iff.mp hv).1
          obtain ⟨t, e⟩ := PyProof.Rows.IntsAre.int_at hi i v (by rw [Array.getElem?_toList]; exact hv)
          exact ⟨ns[i], t, List.getElem?_eq_getElem hlt, by rw [e, List.getD_eq_getElem?_getD, List.getElem?_eq_getElem hlt] <;> rfl⟩
        refine set_update_ints ((Walks.list h3 _ l nI xs).toS) s.heap.objs.size nS ns hz hb vals (xs.size - 0) 0 _ (by omega) (Nat.zero_le _) ⟨⟨_, Heap.get?_push_size _ rfl, rfl, rfl⟩, (pl2.push _)⟩ ?h0 ?hR
        case h0 =>
          have g0 : ((s.heap.push { cls := .type "set", dict := none, data := .set #[] 0 (.fresh 0 0 (!w.params.followText "set-order")) }).push { cls := .type "list_iterator", data := .fields #[.ref l, .int 0 0] }).get? s.heap.objs.size = some { cls := .type "set", dict := none, data := .set #[] 0 (.fresh 0 0 (!w.params.followText "set-order")) } := Heap.get?_push_of_some _ gS
          exact ⟨0, Nat.le_refl 0, setR_new_at g0⟩
        case hR =>
          intro s' c' hm hc' hS'; obtain ⟨h', g2, d', tk', os'⟩ := s'
          have eg : g2 = s.gens := hm.gens; have ed : d' = s.drawn := hm.drawn; have eo : os' = s.os := hm.os
          subst eg; subst ed; subst eo; show wpAny _ _ _ _ _ _; refine wpAny_pure ?_; show wpAny _ _ (ret Value.none) _ _ _
          rw [hz] at hc'; refine wpAny_pure ⟨rfl, h', tk', c', rfl, hS', hc', fun b o e => ?_⟩
          have b0 : b < s.heap.objs.size := Heap.lt_size e
          have b2 : b ≠ (s.heap.push { cls := .type "set", dict := none, data := .set #[] 0 (.fresh 0 0 (!w.params.followText "set-order")) }).objs.size := by rw [Heap.size_push]; exact Nat.ne_of_lt (Nat.lt_succ_of_lt b0)
          exact hm.heap b o (by simp only [List.mem_cons, List.mem_singleton, List.not_mem_nil, or_false, not_or]; exact ⟨Nat.ne_of_lt b0, b2⟩) (Heap.get?_push_of_some _ (Heap.get?_push_of_some _ e))
      · cases r2 with
        | error e => exact hr2
        | ok f2 =>
          cases f2 with
          | ret r =>
            obtain ⟨rfl, h', tk, c', rfl, hS', hc', hk'⟩ := hr2
            repeat (any_goals (first | assumption | wp_step))
            exact q _ _ _ hS' hc' hk'
          | _ => exact hr2.elim
    | _ => exact hr.elim
end
def tSS (K : PySem.W.Frag) (ta : TE) : TE := fun σ H Q => ta σ H fun x H1 => ∃ (l : Addr) (ns : List Int), x = .ref l ∧ SqL K H1 l (ns.map V.int) ∧ ns.length < 64 ∧
  ∀ (ms : List Int) (p : Addr) (H2 : Hp), ms.Pairwise (· < ·) → (∀ k, k ∈ ms ↔ k ∈ ns) → H1 p = none → Same H1 H2 → H2 p = some (.lst (ms.map V.int)) → Q (.ref p) H2
theorem gSs {K : PySem.W.Frag} {ta : TE} {σ : L2.St} {H : Hp} {Q : VK} (h : ta σ H fun x H1 => ∃ (l : Addr) (ns : List Int), x = .ref l ∧ SqL K H1 l (ns.map V.int) ∧ ns.length < 64 ∧
  ∀ (ms : List Int) (p : Addr) (H2 : Hp), ms.Pairwise (· < ·) → (∀ k, k ∈ ms ↔ k ∈ ns) → H1 p = none → Same H1 H2 → H2 p = some (.lst (ms.map V.int)) → Q (.ref p) H2) : tSS K ta σ H Q := h
theorem pe_ss {X : Cx} {K : PySem.W.Frag} {a : Expr} {ta : TE} {p p2 q pos : Pos} (hK : X.K = K) (hc : X.calm = true) (hg : Gl X "sorted") (hm : X.mg "sorted" = none) (hg2 : Gl X "set") (hm2 : X.mg "set" = none) (ha : PE X a ta)
    (na : starEach [a] X.env = (false, eval a X.env) :: starEach [] X.env := by rfl) : PE X (.Call (.Name "sorted" p) [.Call (.Name "set" p2) [a] [] q] [] pos) (tSS K ta) := by
  subst hK
  refine ⟨fun pins s σ H Q I h => Call_ (ld_blt I hg hm PyProof.Rows.boot_sorted (PyProof.Rows.callWith_builtin1 (PyProof.Rows.args_cons (Call_ (ld_blt I hg2 hm2 PyProof.Rows.boot_set (PyProof.Rows.callWith_type1 (PyProof.Rows.args_cons (thn (ha.run pins s σ H _ I h) fun v s1 ⟨x, H1, I1, r1, q1⟩ => PyProof.Rows.args_nil ?_) na) na rfl))) rfl) rfl rfl))⟩
  obtain ⟨l, ns, rfl, hq, hl, q1⟩ := q1
  cases r1
  obtain ⟨its, r, pl, hz⟩ := I1.list hq
  refine set_of_lst ns (I1.ok.hd hc) pl.isList (by simpa using ints_of_vals r) (by unfold scanBound; omega) fun h' tk c R hcn k => PyProof.Rows.args_nil ?_
  have hn : H1 s1.heap.objs.size = none := I1.hok.fresh (Nat.le_refl _)
  have I2 : L2.Inv X pins σ (upd H1 s1.heap.objs.size (SetO X.w s1.heap.objs.size (fun j => decide (j ∈ ns)) c)) { s1 with heap := h', toks := tk } := I1.laid (t' := tk) (fun b u e => k b u e) (Nat.le_refl _) (setO_new R)
  refine cr_sortedSet hc pins _ σ _ [.ref s1.heap.objs.size] [.ref s1.heap.objs.size] Q I2 (.cons rfl .nil) ⟨s1.heap.objs.size, _, c, rfl, upd_same, by omega, fun ms p hs hm hlen hp => ?_⟩
  exact q1 ms p _ hs (fun k => by rw [hm]; exact decide_eq_true_iff) ((L2.Same.new hn).free hp) ((L2.Same.new hn).trans (L2.Same.new hp)) upd_same
end Kp
local macro_rules | `(tactic| tm_at "go") => `(tactic| repeat (first | (with_reducible first | refine Kp.gSeq ?_ | refine Kp.gAsg ?_ | refine Kp.gNm ?_ | refine Kp.gOp ?_ | refine Kp.gC ?_ | refine Kp.gI0 ?_ | refine Kp.gCons0 ?_ | refine Kp.gNil0 ?_ | refine Kp.gTest ?_ | refine Kp.gBl ?_ | refine Kp.gIfS ?_ | refine Kp.gB ?_ | refine Kp.gRet ?_ | refine Kp.gNext ?_ | refine Kp.gFn ?_ | refine Kp.gMeth ?_ | refine Kp.gMk ?_ | refine Kp.gCB ?_ | refine Kp.gFld ?_ | refine Kp.gNot ?_ | refine Kp.gOr ?_ | refine Kp.gAnd ?_ | refine Kp.gChain ?_ | refine Kp.gUn ?_ | refine Kp.gU ?_ | refine Kp.gTupE ?_ | refine Kp.gLstE ?_ | refine Kp.gDrop ?_ | refine Kp.gBM ?_ | refine Kp.gSl ?_ | refine Kp.gNoP ?_ | refine Kp.gPart ?_ | refine Kp.gPartE ?_ | refine Kp.gFor ?_ | refine Kp.gLc ?_ | refine Kp.gYes ?_ | refine Kp.gSFld ?_ | refine Kp.gSb ?_ | refine Kp.gCs ?_ | refine Kp.gNl ?_ | refine Kp.gIL ?_ | refine Kp.gITup ?_ | refine Kp.gIR1 ?_ | refine Kp.gIR2 ?_ | refine Kp.gIE ?_ | refine Kp.gIZ ?_ | refine Kp.gIS ?_ | refine Kp.gAndV ?_ | refine Kp.gOrV ?_ | refine Kp.gNotV ?_ | refine Kp.gS1 ?_ | refine Kp.gDyn ?_ | refine Kp.gStp ?_ | refine Kp.gSlcE ?_ | refine Kp.gSs ?_ | refine Kp.gRv ?_ | refine Kp.gRg1 ?_ | refine Kp.gRg2 ?_ | refine Kp.gD2 ?_ | refine Kp.gD4 ?_ | refine Kp.gM2 ?_ | refine Kp.gBreak ?_ | refine Kp.gCont ?_ | refine Kp.gRetN ?_) | ((with_reducible apply Kp.gVar); (focus exact rfl)) | ((with_reducible refine Kp.gIfT ?_ ?_); (focus exact rfl)) | ((with_reducible refine Kp.gIfF ?_ ?_); (focus exact rfl)) | ((with_reducible refine Kp.gEq ?_ ?_); (focus exact rfl)) | ((with_reducible refine Kp.gNe ?_ ?_); (focus exact rfl)) | ((with_reducible apply Kp.gIsi); (focus (first | exact Kp.Isi.ii | exact Kp.Isi.ib | exact Kp.Isi.ss | exact Kp.Isi.ll (by assumption) | exact Kp.Isi.tt (by assumption))))))
local macro_rules | `(tactic| tm_at "gi") => `(tactic| repeat (first | (with_reducible first | refine Kp.gAsg ?_ | refine Kp.gNm ?_ | refine Kp.gOp ?_ | refine Kp.gC ?_ | refine Kp.gI0 ?_ | refine Kp.gTest ?_ | refine Kp.gBl ?_ | refine Kp.gIfS ?_ | refine Kp.gAnd ?_ | refine Kp.gRet ?_ | refine Kp.gNext ?_ | refine Kp.gMeth ?_ | refine Kp.gFld ?_ | refine Kp.gCons0 ?_ | refine Kp.gNil0 ?_) | ((with_reducible apply Kp.gVar); (focus exact rfl)) | ((with_reducible refine Kp.gIfT ?_ ?_); (focus exact rfl)) | ((with_reducible refine Kp.gIfF ?_ ?_); (focus exact rfl)) | ((with_reducible refine Kp.gEq ?_ ?_); (focus exact rfl))))
/-! spreads -/
namespace Kp
open PySem PySem.Spec L2
def Rl.sc : Rl → Str
  | .guess => "GuessedSpread"
  | .lean => "LeaningSpread"
  | _ => "Spread"
def fS (n : Nat) : List (Str × V) := [("size", .int (n : Nat)), ("totals", .int (hf n : Nat)), ("pairs", .int (n / 2 : Nat))]
def SpreadAt (K : PySem.W.Frag) (H : Hp) (p : Addr) (r : Rl) (n : Nat) : Prop := ∃ dx, H p = some (.ins (He.ga K r.sc) dx (fS n))
theorem SpreadAt.same {K : PySem.W.Frag} {H H' : Hp} {p : Addr} {r : Rl} {n : Nat} (f : SpreadAt K H p r n) (s : Same H H') : SpreadAt K H' p r n := let ⟨dx, e⟩ := f; ⟨dx, s _ _ e⟩
section
variable {K : PySem.W.Frag} {mg : Str → Option Value}
theorem spCls (S : TX K mg) (r : Rl) : Cls K (He.ga K r.sc) := by
  cases r
  · exact cls_Spread S
  · exact cls_Spread S
  · exact cls_GuessedSpread S
  · exact cls_LeaningSpread S
theorem naSize (S : TX K mg) (r : Rl) : NoAttr K (He.ga K r.sc) "size" := by
  cases r
  · exact na_Spread_size S
  · exact na_Spread_size S
  · exact na_GuessedSpread_size S
  · exact na_LeaningSpread_size S
theorem naTotals (S : TX K mg) (r : Rl) : NoAttr K (He.ga K r.sc) "totals" := by
  cases r
  · exact na_Spread_totals S
  · exact na_Spread_totals S
  · exact na_GuessedSpread_totals S
  · exact na_LeaningSpread_totals S
theorem naPairs (S : TX K mg) (r : Rl) : NoAttr K (He.ga K r.sc) "pairs" := by
  cases r
  · exact na_Spread_pairs S
  · exact na_Spread_pairs S
  · exact na_GuessedSpread_pairs S
  · exact na_LeaningSpread_pairs S
end
/-- at D a list of these ints -/
abbrev lI (xs : List Int) : HO := .lst (xs.map V.int)
def p_sp (K : PySem.W.Frag) (r : Rl) (L : Nat → Int → List Int) : Pm := fun vs H Q => ∃ (p : Addr) (n : Nat) (a : Int), vs = [.ref p, .int a] ∧ SpreadAt K H p r n ∧ n ≤ 64 ∧ (-100 ≤ a ∧ a ≤ 100) ∧ ∀ D H', Same H H' → H D = none → H' D = some (lI (L n a)) → Q (.ref D) H'
def p_SpreadI (K : PySem.W.Frag) (c : Str) : Pm := fun vs H Q => ∃ (p dx : Addr) (r : Rl) (n : Nat), vs = [.ref p, .int (n : Nat)] ∧ c = r.sc ∧ H p = some (.ins (He.ga K r.sc) dx []) ∧ ∀ H', (∀ b o, b ≠ p → H b = some o → H' b = some o) → SpreadAt K H' p r n → Q .non H'
theorem li_len {xs : List Int} : (xs.map V.int).length = xs.length := List.length_map _
section
variable {P : Program} {w : World} {K : PySem.W.Frag} {mg : Str → Option Value} {base : Heap}
theorem ok_SpreadI (S : TX K mg) (c : Str) : OkF P w K mg base 1 (He.ma K (He.ga K "Spread") "__init__") (p_SpreadI K c) := by
  refine okF (F_Spread_init S) sc_Spread_init (by tm_at "len") (fun _ _ _ _ _ _ us hl => match us, hl with | [_, _], _ => rfl) (fun cdv A outer s H vs Q E hr h => ?_)
  obtain ⟨p, dx, r, n, rfl, _, hp, q⟩ := h
  refine ⟨_, (pss_cons (kSFld (K := K) rfl (pv 0) (pv 1) rfl)
    (pss_cons (kSFld (K := K) rfl (pv 0) (pe_op op_fdiv (pe_op op_add (pv 1) pe_int) pe_int) rfl)
    (pss_one (kSFld (K := K) rfl (pv 0) (pe_op op_fdiv (pv 1) pe_int) rfl)))), ?_⟩
  tm_at "go"
  refine ⟨p, _, dx, [], rfl, hp, spCls S r, naSize S r, flL rfl, ?_⟩
  tm_at "go"
  refine ⟨p, _, dx, [("size", .int (n : Nat))], rfl, upd_same, spCls S r, naTotals S r, flL rfl, ?_⟩
  tm_at "go"
  refine ⟨p, _, dx, [("size", .int (n : Nat)), ("totals", .int (((n : Int) + 1) / 2))], rfl, upd_same, spCls S r, naPairs S r, flL rfl, ?_⟩
  refine q _ (fun b o nb e => by rw [upd_ne nb, upd_ne nb, upd_ne nb]; exact e) ⟨dx, ?_⟩
  rw [upd_same, hf_int, show (n : Int) / 2 = ((n / 2 : Nat) : Int) by omega]
  rfl
theorem ok_Spread_sum_places (S : TX K mg) (r : Rl) : OkF P w K mg base 1 (He.ma K (He.ga K "Spread") "sum_places") (p_sp K r sum0) := by
  refine okF (F_Spread_sum_places S) sc_Spread_sum_places (by tm_at "len") (fun _ _ _ _ _ _ us hl => match us, hl with | [_, _], _ => rfl) (fun cdv A outer s H vs Q E hr h => ?_)
  obtain ⟨p, n, a, rfl, ⟨dx, hp⟩, hn, ha, q⟩ := h
  refine ⟨_, (pss_cons (ps_if (pt_cmpR op_eq (pv 1) (kFld (K := K) rfl (pv 0) rfl) (nomark _)) (pss_one (ps_ret (pe_lst (pa_cons (pe_op op_mul pe_int (pv 1)) pa_nil)))) pss_nil)
    (pss_one (ps_ret (pe_lst (pa_cons (pe_op op_mul pe_int (pv 1)) (pa_cons (pe_op op_add (pe_op op_mul pe_int (pv 1)) pe_int) pa_nil)))))), ?_⟩
  tm_at "go"
  refine gFldE hp (spCls S r) (naPairs S r) rfl ?_
  tm_at "go"
  by_cases e : a = ((n / 2 : Nat) : Int)
  · refine gIfT (decide_eq_true (congrArg V.int e)) ?_
    tm_at "go"
    refine ⟨szL rfl, fun D hD => ?_⟩
    refine q D _ (Same.new hD) hD ?_
    rw [upd_same, show sum0 n a = [2 * a] from if_pos e]
    rfl
  · refine gIfF (decide_eq_false (fun z => e (by injection z))) ?_
    tm_at "go"
    refine ⟨szL rfl, fun D hD => ?_⟩
    refine q D _ (Same.new hD) hD ?_
    rw [upd_same, show sum0 n a = [2 * a, 2 * a + 1] from if_neg e]
    rfl
theorem ok_Spread_difference_places (S : TX K mg) (r : Rl) : OkF P w K mg base 1 (He.ma K (He.ga K "Spread") "difference_places") (p_sp K r dif0) := by
  refine okF (F_Spread_difference_places S) sc_Spread_difference_places (by tm_at "len") (fun _ _ _ _ _ _ us hl => match us, hl with | [_, _], _ => rfl) (fun cdv A outer s H vs Q E hr h => ?_)
  obtain ⟨p, n, a, rfl, ⟨dx, hp⟩, hn, ha, q⟩ := h
  refine ⟨_, (pss_one (ps_ret (pe_lst (pa_cons (pe_op op_mul pe_int (pv 1)) (pa_cons (pe_op op_add (pe_op op_mul pe_int (pv 1)) pe_int) pa_nil))))), ?_⟩
  tm_at "go"
  refine ⟨szL rfl, fun D hD => ?_⟩
  refine q D _ (Same.new hD) hD ?_
  rw [upd_same]
  rfl
theorem ok_Spread_first_needs (S : TX K mg) (r : Rl) : OkF P w K mg base 1 (He.ma K (He.ga K "Spread") "first_needs") (p_sp K r first0) := by
  refine okF (F_Spread_first_needs S) sc_Spread_first_needs (by tm_at "len") (fun _ _ _ _ _ _ us hl => match us, hl with | [_, _], _ => rfl) (fun cdv A outer s H vs Q E hr h => ?_)
  obtain ⟨p, n, a, rfl, ⟨dx, hp⟩, hn, ha, q⟩ := h
  refine ⟨_, (pss_cons (ps_if (pt_cmpR op_eq (pv 1) (kFld (K := K) rfl (pv 0) rfl) (nomark _)) (pss_one (ps_ret (pe_lst (pa_cons (pv 1) pa_nil)))) pss_nil)
    (pss_one (ps_ret (pe_lst (pa_cons (pv 1) (pa_cons (pe_op op_add (kFld (K := K) rfl (pv 0) rfl) (pv 1)) pa_nil)))))), ?_⟩
  tm_at "go"
  refine gFldE hp (spCls S r) (naPairs S r) rfl ?_
  tm_at "go"
  by_cases e : a = ((n / 2 : Nat) : Int)
  · refine gIfT (decide_eq_true (congrArg V.int e)) ?_
    tm_at "go"
    refine ⟨szL rfl, fun D hD => ?_⟩
    refine q D _ (Same.new hD) hD ?_
    rw [upd_same, show first0 n a = [a] from if_pos e]
    rfl
  · refine gIfF (decide_eq_false (fun z => e (by injection z))) ?_
    tm_at "go"
    refine gFldE hp (spCls S r) (naTotals S r) rfl ?_
    tm_at "go"
    refine ⟨szL rfl, fun D hD => ?_⟩
    refine q D _ (Same.new hD) hD ?_
    rw [upd_same, show first0 n a = [a, ((hf n : Nat) : Int) + a] from if_neg e]
    rfl
/-- a filtered range, collected -/
theorem flt_step {p : Int → Bool} {lo : Int} {m : Nat} : flt p lo (m + 1) = if p (lo + (m : Int)) = true then flt p lo m ++ [lo + (m : Int)] else flt p lo m := rfl
def AccL (H : Hp) (D : Addr) (xs : List Int) (H' : Hp) : Prop := Same H H' ∧ H' D = some (lI xs)
theorem AccL.nil {H : Hp} {D : Addr} (hD : H D = none) : AccL H D [] (upd H D (.lst [])) := ⟨Same.new hD, by rw [upd_same]; rfl⟩
theorem AccL.push {H H' : Hp} {D : Addr} {xs : List Int} {k : Int} {v : V} (z : AccL H D xs H') (hD : H D = none) (e : v = .int k) : AccL H D (xs ++ [k]) (upd H' D (.lst (xs.map V.int ++ [v]))) := ⟨z.1.mut hD, by rw [upd_same, e]; show _ = some (HO.lst ((xs ++ [k]).map V.int)); rw [List.map_append]; rfl⟩
theorem AccL.ext {H H' : Hp} {D : Addr} {xs ys : List Int} (z : AccL H D xs H') (hD : H D = none) : AccL H D (xs ++ ys) (upd H' D (.lst (xs.map V.int ++ ys.map V.int))) := ⟨z.1.mut hD, by rw [upd_same]; show _ = some (HO.lst ((xs ++ ys).map V.int)); rw [List.map_append]⟩
theorem AccL.step {H H1 H2 : Hp} {D : Addr} {xs : List Int} (z : AccL H D xs H1) (s : Same H1 H2) : AccL H D xs H2 := ⟨z.1.trans s, s _ _ z.2⟩
theorem ok_LeaningSpread_near_sums (S : TX K mg) (r : Rl) : OkF P w K mg base 1 (He.ma K (He.ga K "LeaningSpread") "near_sums") (p_sp K r nearS) := by
  refine okF (F_LeaningSpread_near_sums S) sc_LeaningSpread_near_sums (by tm_at "len") (fun _ _ _ _ _ _ us hl => match us, hl with | [_, _], _ => rfl) (fun cdv A outer s H vs Q E hr h => ?_)
  obtain ⟨p, n, a, rfl, ⟨dx, hp⟩, hn, ha, q⟩ := h
  refine ⟨_, (pss_one (ps_ret (pe_lc (own := [("near", 2)]) (g := gName 2) rfl sc_LeaningSpread_near_sums.nd (pi_range2 rfl (fr_range S) (pa_cons (pe_op op_sub (pv 1) pe_int) (pa_cons (pe_op op_add (pv 1) pe_int) pa_nil))) (blkOk_by (own := [("near", 2)]) (N := ["self", "at", "near"]) (sc := defScope s_LeaningSpread_near_sums) (by decide +kernel)) (fun _ _ _ _ _ => (pg_name (i := 2) sc_LeaningSpread_near_sums.nd rfl (Or.inl rfl))) (fun _ _ _ _ _ => (pts_one (pt_chain op_le op_lt pe_int (pv 2) (kFld (K := K) rfl (pv 0) rfl)))) (fun _ _ _ _ _ => (pv 2))))), ?_⟩
  tm_at "go"
  refine gR2 (by omega) (by omega) ?_
  intro D hD
  rw [show (a + 2 - (a - 1)).toNat = 3 by omega]
  refine lcIt (wRange2 (m := 3)) (fun i H' => AccL H D (flt (inH n) (a - 1) i) H') (AccL.nil hD) (fun _ _ _ _ => trivial) ?_ ?_
  · rintro i x H1 H2 hi z ⟨rfl, rfl⟩
    tm_at "go"
    refine ⟨rfl, ?_⟩
    tm_at "go"
    have f1 := flt_len (p := inH n) (lo := a - 1) i
    have nop : inH n (a - 1 + (i : Int)) = false → AccL H D (flt (inH n) (a - 1) (i + 1)) H2 := fun e => by rw [flt_step, if_neg (by rw [e]; exact Bool.false_ne_true)]; exact z
    by_cases e1 : 0 ≤ a - 1 + (i : Int)
    · refine gIfT (decide_eq_true e1) ?_
      tm_at "go"
      refine gFldE (z.1 _ _ hp) (spCls S r) (naTotals S r) rfl ?_
      tm_at "go"
      by_cases e2 : a - 1 + (i : Int) < ((hf n : Nat) : Int)
      · refine gIfT (decide_eq_true e2) ?_
        tm_at "go"
        refine ⟨_, z.2, by rw [li_len]; exact line_lt (by omega), ?_⟩
        rw [flt_step, if_pos (by unfold inH; rw [decide_eq_true e1, decide_eq_true e2]; rfl)]
        exact z.push hD rfl
      · refine gIfF (decide_eq_false e2) ?_
        exact nop (by unfold inH; rw [decide_eq_false e2, Bool.and_false])
    · refine gIfF (decide_eq_false e1) ?_
      tm_at "go"
      exact nop (by unfold inH; rw [decide_eq_false e1]; rfl)
  · rintro H1 z
    exact q D _ z.1 hD z.2
theorem ok_GuessedSpread_difference_places (S : TX K mg) (r : Rl) : OkF P w K mg base 1 (He.ma K (He.ga K "GuessedSpread") "difference_places") (p_sp K r difG) := by
  refine okF (F_GuessedSpread_difference_places S) sc_GuessedSpread_difference_places (by tm_at "len") (fun _ _ _ _ _ _ us hl => match us, hl with | [_, _], _ => rfl) (fun cdv A outer s H vs Q E hr h => ?_)
  obtain ⟨p, n, a, rfl, ⟨dx, hp⟩, hn, ha, q⟩ := h
  refine ⟨_, (pss_one (ps_ret (pe_lc (own := [("place", 2)]) (g := gName 2) rfl sc_GuessedSpread_difference_places.nd (pi_range2 rfl (fr_range S) (pa_cons (pe_op op_mul pe_int (pv 1)) (pa_cons (pe_op op_add (pe_op op_mul pe_int (pv 1)) pe_int) pa_nil))) (blkOk_by (own := [("place", 2)]) (N := ["self", "at", "place"]) (sc := defScope s_GuessedSpread_difference_places) (by decide +kernel)) (fun _ _ _ _ _ => (pg_name (i := 2) sc_GuessedSpread_difference_places.nd rfl (Or.inl rfl))) (fun _ _ _ _ _ => (pts_one (pt_cmpR op_lt (pv 2) (kFld (K := K) rfl (pv 0) rfl) (nomark _)))) (fun _ _ _ _ _ => (pv 2))))), ?_⟩
  tm_at "go"
  refine gR2 (by omega) (by omega) ?_
  intro D hD
  rw [show (2 * a + 3 - 2 * a).toNat = 3 by omega]
  refine lcIt (wRange2 (m := 3)) (fun i H' => AccL H D (flt (fun k => decide (k < (n : Int))) (2 * a) i) H') (AccL.nil hD) (fun _ _ _ _ => trivial) ?_ ?_
  · rintro i x H1 H2 hi z ⟨rfl, rfl⟩
    tm_at "go"
    refine ⟨rfl, ?_⟩
    tm_at "go"
    have f1 := flt_len (p := fun k => decide (k < (n : Int))) (lo := 2 * a) i
    refine gFldE (z.1 _ _ hp) (spCls S r) (naSize S r) rfl ?_
    tm_at "go"
    by_cases e2 : 2 * a + (i : Int) < (n : Int)
    · refine gIfT (decide_eq_true e2) ?_
      tm_at "go"
      refine ⟨_, z.2, by rw [li_len]; exact line_lt (by omega), ?_⟩
      rw [flt_step, if_pos (decide_eq_true e2)]
      exact z.push hD rfl
    · refine gIfF (decide_eq_false e2) ?_
      rw [flt_step, if_neg (by rw [decide_eq_false e2]; exact Bool.false_ne_true)]
      exact z
  · rintro H1 z
    exact q D _ z.1 hD z.2
theorem wTup2 {K : PySem.W.Frag} {a : Addr} {x y : V} : Walk (Itt K a) 2 (fun H => SqT K H a [x, y]) (fun i H v H' => H' = H ∧ v = if i = 0 then x else y) :=
  (walk_tup (K := K) (a := a) (xs := [x, y])).mono (fun _ h => h) fun i H v H' hi _ z => ⟨z.1, by
    have h := z.2
    rcases i with _ | _ | i
    · exact (Option.some.inj h).symm
    · exact (Option.some.inj h).symm
    · have h3 : i + 1 + 1 < 2 := hi
      omega⟩
def ndk (n : Nat) (a : Int) : Nat → List Int
  | 0 => []
  | 1 => if inP n (a - 1) = true then [a - 1] else []
  | _ => nearD n a
theorem ok_GuessedSpread_near_differences (S : TX K mg) (r : Rl) : OkF P w K mg base 1 (He.ma K (He.ga K "GuessedSpread") "near_differences") (p_sp K r nearD) := by
  refine okF (F_GuessedSpread_near_differences S) sc_GuessedSpread_near_differences (by tm_at "len") (fun _ _ _ _ _ _ us hl => match us, hl with | [_, _], _ => rfl) (fun cdv A outer s H vs Q E hr h => ?_)
  obtain ⟨p, n, a, rfl, ⟨dx, hp⟩, hn, ha, q⟩ := h
  refine ⟨_, (pss_one (ps_ret (pe_lc (own := [("near", 2)]) (g := gName 2) rfl sc_GuessedSpread_near_differences.nd (kTup (K := K) rfl (pe_tup (pa_cons (pe_op op_sub (pv 1) pe_int) (pa_cons (pv 1) pa_nil)))) (blkOk_by (own := [("near", 2)]) (N := ["self", "at", "near"]) (sc := defScope s_GuessedSpread_near_differences) (by decide +kernel)) (fun _ _ _ _ _ => (pg_name (i := 2) sc_GuessedSpread_near_differences.nd rfl (Or.inl rfl))) (fun _ _ _ _ _ => (pts_one (pt_chain op_le op_lt pe_int (pv 2) (kFld (K := K) rfl (pv 0) rfl)))) (fun _ _ _ _ _ => (pv 2))))), ?_⟩
  tm_at "go"
  refine ⟨szL rfl, fun T hT => ?_⟩
  generalize hg : upd _ _ _ = H1
  obtain ⟨s1, eT⟩ := newF hg hT
  refine gT1 (SqT.of eT) ?_
  intro D hD
  refine lcIt wTup2 (fun i H' => AccL H1 D (ndk n a i) H') (AccL.nil hD) (fun i H' _ z => SqT.of (z.1 _ _ eT)) ?_ ?_
  · rintro i x H2 H3 hi z ⟨rfl, rfl⟩
    have hk : ∃ k : Int, (if i = 0 then V.int (a - 1) else V.int a) = .int k ∧ ndk n a (i + 1) = (if inP n k = true then ndk n a i ++ [k] else ndk n a i) := by
      rcases i with _ | _ | i
      · exact ⟨a - 1, rfl, rfl⟩
      · refine ⟨a, rfl, ?_⟩
        show nearD n a = if inP n a = true then (if inP n (a - 1) = true then [a - 1] else []) ++ [a] else (if inP n (a - 1) = true then [a - 1] else [])
        unfold nearD
        split <;> split <;> rfl
      · omega
    have hl : (ndk n a i).length ≤ 2 := by
      rcases i with _ | _ | i
      · exact Nat.zero_le _
      · show (if inP n (a - 1) = true then [a - 1] else []).length ≤ 2
        split <;> simp
      · omega
    obtain ⟨k, ek, e0⟩ := hk
    rw [ek, e0]
    tm_at "go"
    refine ⟨rfl, ?_⟩
    tm_at "go"
    have nop : inP n k = false → AccL H1 D (if inP n k = true then ndk n a i ++ [k] else ndk n a i) H3 := fun e => by rw [if_neg (by rw [e]; exact Bool.false_ne_true)]; exact z
    by_cases e1 : 0 ≤ k
    · refine gIfT (decide_eq_true e1) ?_
      tm_at "go"
      refine gFldE (z.1 _ _ (s1 _ _ hp)) (spCls S r) (naPairs S r) rfl ?_
      tm_at "go"
      by_cases e2 : k < ((n / 2 : Nat) : Int)
      · refine gIfT (decide_eq_true e2) ?_
        tm_at "go"
        refine ⟨_, z.2, by rw [li_len]; exact line_lt (by omega), ?_⟩
        rw [if_pos (by unfold inP; rw [decide_eq_true e1, decide_eq_true e2]; rfl)]
        exact z.push hD rfl
      · refine gIfF (decide_eq_false e2) ?_
        exact nop (by unfold inP; rw [decide_eq_false e2, Bool.and_false])
    · refine gIfF (decide_eq_false e1) ?_
      tm_at "go"
      exact nop (by unfold inP; rw [decide_eq_false e1]; rfl)
  · rintro H2 z
    exact q D _ (s1.trans z.1) (s1.free hD) z.2
theorem wInts {K : PySem.W.Frag} {a : Addr} {xs : List Int} : Walk (Itl K a) xs.length (fun H => SqL K H a (xs.map V.int)) (fun i H x H' => H' = H ∧ ∃ k, xs[i]? = some k ∧ x = .int k) := by
  have w := walk_list (K := K) (a := a) (xs := xs.map V.int)
  rw [li_len] at w
  refine w.mono (fun _ h => h) fun i H x H' hi _ y => ⟨y.1, xs[i], List.getElem?_eq_getElem hi, ?_⟩
  have := y.2
  rw [List.getElem?_map, List.getElem?_eq_getElem hi] at this
  exact (Option.some.inj this).symm
theorem dy_near (S : TX K mg) {H : Hp} {a : Addr} {n : Nat} (h : SpreadAt K H a .lean n) : ∃ C dx f, H a = some (.ins C dx (fS n)) ∧ Cls K C ∧ Meth K C "near_sums" f ∧ OkF P w K mg base 2 f (p_sp K .lean nearS) :=
  let ⟨dx, e⟩ := h; ⟨_, dx, _, e, cls_LeaningSpread S, me_LeaningSpread_near_sums S, (ok_LeaningSpread_near_sums S .lean).mono (by decide)⟩
theorem dy_sum2 (S : TX K mg) {H : Hp} {a : Addr} {n : Nat} (h : SpreadAt K H a .lean n) : ∃ C dx f, H a = some (.ins C dx (fS n)) ∧ Cls K C ∧ Meth K C "sum_places" f ∧ OkF P w K mg base 2 f (p_sp K .lean sum0) :=
  let ⟨dx, e⟩ := h; ⟨_, dx, _, e, cls_LeaningSpread S, me_LeaningSpread_sum_places S, by rw [in_LeaningSpread_sum_places S]; exact (ok_Spread_sum_places S .lean).mono (by decide)⟩
theorem dy_neard (S : TX K mg) {H : Hp} {a : Addr} {n : Nat} (h : SpreadAt K H a .guess n) : ∃ C dx f, H a = some (.ins C dx (fS n)) ∧ Cls K C ∧ Meth K C "near_differences" f ∧ OkF P w K mg base 2 f (p_sp K .guess nearD) :=
  let ⟨dx, e⟩ := h; ⟨_, dx, _, e, cls_GuessedSpread S, me_GuessedSpread_near_differences S, (ok_GuessedSpread_near_differences S .guess).mono (by decide)⟩
theorem dy_dif2 (S : TX K mg) {H : Hp} {a : Addr} {n : Nat} (h : SpreadAt K H a .guess n) : ∃ C dx f, H a = some (.ins C dx (fS n)) ∧ Cls K C ∧ Meth K C "difference_places" f ∧ OkF P w K mg base 2 f (p_sp K .guess difG) :=
  let ⟨dx, e⟩ := h; ⟨_, dx, _, e, cls_GuessedSpread S, me_GuessedSpread_difference_places S, (ok_GuessedSpread_difference_places S .guess).mono (by decide)⟩
theorem ok_LeaningSpread_difference_places (S : TX K mg) : OkF P w K mg base 3 (He.ma K (He.ga K "LeaningSpread") "difference_places") (p_sp K .lean difL) := by
  refine okF (F_LeaningSpread_difference_places S) sc_LeaningSpread_difference_places (by tm_at "len") (fun _ _ _ _ _ _ us hl => match us, hl with | [_, _], _ => rfl) (fun cdv A outer s H vs Q E hr h => ?_)
  obtain ⟨p, n, a, rfl, Sp, hn, ha, q⟩ := h
  refine ⟨_, (pss_cons (ps_set (i := 2) sc_LeaningSpread_difference_places.nd rfl (Or.inl rfl) (pe_lst pa_nil))
    (pss_cons (ps_for PassesOwn.never rfl (kList (K := K) rfl (pe_d (k := 2) (m := "near_sums") (pv 0) (hr.mono (by decide)) (pa_cons (pv 1) pa_nil))) (pg_name (i := 3) sc_LeaningSpread_difference_places.nd rfl (Or.inl rfl)) (pss_one (ps_expr (kBM (K := K) rfl PySem.F.plainAttrs_list PySem.F.slot_list_extend PySem.F.type_list_extend mt_extend (pv 2) (pa_cons (pe_d (k := 2) (m := "sum_places") (pv 0) (hr.mono (by decide)) (pa_cons (pv 3) pa_nil)) pa_nil)))))
    (pss_one (ps_ret (pv 2))))), ?_⟩
  tm_at "go"
  refine ⟨szL rfl, fun D hD => ?_⟩
  have z0 := AccL.nil hD
  tm_at "go"
  obtain ⟨C, dx, f, e, cl, m, o⟩ := dy_near S (P := P) (w := w) (base := base) (Sp.same z0.1)
  refine ⟨p, C, dx, fS n, f, _, rfl, e, rfl, cl, m, o, ?_⟩
  tm_at "go"
  refine ⟨p, n, a, rfl, Sp.same z0.1, hn, ha, fun B H1 s1 hB eB => ?_⟩
  refine gL1 (SqL.of eB) ?_
  refine forIt (wInts (xs := nearS n a)) (fun i σ H' => AccL H D (((nearS n a).take i).flatMap (sum0 n)) H' ∧ H' B = some (lI (nearS n a)) ∧ ∃ v, σ = [some (.ref p), some (.int a), some (.ref D), v]) ⟨z0.step s1, eB, none, rfl⟩ (fun i σ H' _ z => SqL.of z.2.1) ?_ ?_
  · rintro i x σ H2 H3 hi ⟨z, eB2, v, rfl⟩ ⟨rfl, k, hk, rfl⟩
    tm_at "go"
    refine ⟨.inl ⟨rfl, _, SqL.of z.2⟩, ?_⟩
    tm_at "go"
    obtain ⟨C, dx, f, e, cl, m, o⟩ := dy_sum2 S (P := P) (w := w) (base := base) (Sp.same z.1)
    refine ⟨p, C, dx, fS n, f, _, rfl, e, rfl, cl, m, o, ?_⟩
    tm_at "go"
    have bk := nearS_mem (List.mem_of_getElem? hk)
    unfold hf at bk
    refine ⟨p, n, k, rfl, Sp.same z.1, hn, by omega, fun E H4 s4 hE eE => ?_⟩
    tm_at "go"
    have l1 := flat_len (f := sum0 n) (b := 2) (fun x => sum0_len) ((nearS n a).take i)
    have l2 : ((nearS n a).take i).length ≤ 3 := by rw [List.length_take]; have : (nearS n a).length ≤ 3 := flt_len 3; omega
    have l3 := sum0_len (n := n) (a := k)
    have DB : B ≠ D := fun e => by rw [e, z0.2] at hB; cases hB
    refine ⟨D, E, _, _, rfl, rfl, s4 _ _ z.2, eE, by rw [li_len, li_len]; exact line_le (by omega), ?_⟩
    rw [flat_snoc hk]
    exact ⟨(z.step s4).ext hD, by rw [upd_ne DB]; exact s4 _ _ eB2, _, rfl⟩
  · rintro σ H2 ⟨z, eB2, v, rfl⟩
    tm_at "go"
    rw [List.take_length] at z
    exact q D _ z.1 hD z.2
theorem ok_LeaningSpread_first_needs (S : TX K mg) : OkF P w K mg base 3 (He.ma K (He.ga K "LeaningSpread") "first_needs") (p_sp K .lean firstL) := by
  refine okF (F_LeaningSpread_first_needs S) sc_LeaningSpread_first_needs (by tm_at "len") (fun _ _ _ _ _ _ us hl => match us, hl with | [_, _], _ => rfl) (fun cdv A outer s H vs Q E hr h => ?_)
  obtain ⟨p, n, a, rfl, Sp, hn, ha, q⟩ := h
  refine ⟨_, (pss_cons (ps_if (pt_cmpR op_eq (pv 1) (kFld (K := K) rfl (pv 0) rfl) (nomark _)) (pss_one (ps_ret (pe_lst (pa_cons (pv 1) pa_nil)))) pss_nil)
    (pss_one (ps_ret (pe_op op_cat (pe_d (k := 2) (m := "near_sums") (pv 0) (hr.mono (by decide)) (pa_cons (pv 1) pa_nil)) (pe_lst (pa_cons (pe_op op_add (kFld (K := K) rfl (pv 0) rfl) (pv 1)) pa_nil)))))), ?_⟩
  obtain ⟨dx0, hp⟩ := Sp
  tm_at "go"
  refine gFldE hp (spCls S .lean) (naPairs S .lean) rfl ?_
  tm_at "go"
  by_cases e : a = ((n / 2 : Nat) : Int)
  · refine gIfT (decide_eq_true (congrArg V.int e)) ?_
    tm_at "go"
    refine ⟨szL rfl, fun D hD => ?_⟩
    refine q D _ (Same.new hD) hD ?_
    rw [upd_same, show firstL n a = [a] from if_pos e]
    rfl
  · refine gIfF (decide_eq_false (fun z => e (by injection z))) ?_
    tm_at "go"
    obtain ⟨C, dx, f, e1, cl, m, o⟩ := dy_near S (P := P) (w := w) (base := base) ⟨dx0, hp⟩
    refine ⟨p, C, dx, fS n, f, _, rfl, e1, rfl, cl, m, o, ?_⟩
    tm_at "go"
    refine ⟨p, n, a, rfl, ⟨dx0, hp⟩, hn, ha, fun B H1 s1 hB eB => ?_⟩
    tm_at "go"
    refine gFldE (s1 _ _ hp) (spCls S .lean) (naTotals S .lean) rfl ?_
    tm_at "go"
    refine ⟨szL rfl, fun C hC => ?_⟩
    have l2 : (nearS n a).length ≤ 3 := flt_len 3
    refine ⟨B, C, _, _, rfl, rfl, get_new hC eB, upd_same, by rw [li_len]; exact line_le (by show (nearS n a).length + 1 ≤ _; omega), fun D hD => ?_⟩
    refine q D _ (s1.trans ((Same.new hC).trans (Same.new hD))) (s1.free ((Same.new hC).free hD)) ?_
    rw [upd_same, show firstL n a = nearS n a ++ [((hf n : Nat) : Int) + a] from if_neg e]
    show _ = some (HO.lst ((nearS n a ++ [((hf n : Nat) : Int) + a]).map V.int))
    rw [List.map_append]
    rfl
theorem ok_GuessedSpread_sum_places (S : TX K mg) : OkF P w K mg base 3 (He.ma K (He.ga K "GuessedSpread") "sum_places") (p_sp K .guess sumG) := by
  refine okF (F_GuessedSpread_sum_places S) sc_GuessedSpread_sum_places (by tm_at "len") (fun _ _ _ _ _ _ us hl => match us, hl with | [_, _], _ => rfl) (fun cdv A outer s H vs Q E hr h => ?_)
  obtain ⟨p, n, a, rfl, Sp, hn, ha, q⟩ := h
  refine ⟨_, (pss_cons (ps_set (i := 2) sc_GuessedSpread_sum_places.nd rfl (Or.inl rfl) (pe_lst (pa_cons (pe_op op_mul pe_int (pv 1)) pa_nil)))
    (pss_cons (ps_for PassesOwn.never rfl (kList (K := K) rfl (pe_d (k := 2) (m := "near_differences") (pv 0) (hr.mono (by decide)) (pa_cons (pv 1) pa_nil))) (pg_name (i := 3) sc_GuessedSpread_sum_places.nd rfl (Or.inl rfl)) (pss_one (ps_expr (kBM (K := K) rfl PySem.F.plainAttrs_list PySem.F.slot_list_extend PySem.F.type_list_extend mt_extend (pv 2) (pa_cons (pe_d (k := 2) (m := "difference_places") (pv 0) (hr.mono (by decide)) (pa_cons (pv 3) pa_nil)) pa_nil)))))
    (pss_one (ps_ret (pv 2))))), ?_⟩
  tm_at "go"
  refine ⟨szL rfl, fun D hD => ?_⟩
  have z0 : AccL H D [2 * a] (upd H D (.lst [.int (2 * a)])) := ⟨Same.new hD, upd_same⟩
  tm_at "go"
  obtain ⟨C, dx, f, e, cl, m, o⟩ := dy_neard S (P := P) (w := w) (base := base) (Sp.same z0.1)
  refine ⟨p, C, dx, fS n, f, _, rfl, e, rfl, cl, m, o, ?_⟩
  tm_at "go"
  refine ⟨p, n, a, rfl, Sp.same z0.1, hn, ha, fun B H1 s1 hB eB => ?_⟩
  refine gL1 (SqL.of eB) ?_
  refine forIt (wInts (xs := nearD n a)) (fun i σ H' => AccL H D ([2 * a] ++ ((nearD n a).take i).flatMap (difG n)) H' ∧ H' B = some (lI (nearD n a)) ∧ ∃ v, σ = [some (.ref p), some (.int a), some (.ref D), v]) ⟨z0.step s1, eB, none, rfl⟩ (fun i σ H' _ z => SqL.of z.2.1) ?_ ?_
  · rintro i x σ H2 H3 hi ⟨z, eB2, v, rfl⟩ ⟨rfl, k, hk, rfl⟩
    tm_at "go"
    refine ⟨.inl ⟨rfl, _, SqL.of z.2⟩, ?_⟩
    tm_at "go"
    obtain ⟨C, dx, f, e, cl, m, o⟩ := dy_dif2 S (P := P) (w := w) (base := base) (Sp.same z.1)
    refine ⟨p, C, dx, fS n, f, _, rfl, e, rfl, cl, m, o, ?_⟩
    tm_at "go"
    have bk := nearD_mem (List.mem_of_getElem? hk)
    refine ⟨p, n, k, rfl, Sp.same z.1, hn, by omega, fun E H4 s4 hE eE => ?_⟩
    tm_at "go"
    have l1 := flat_len (f := difG n) (b := 3) (fun x => flt_len 3) ((nearD n a).take i)
    have l2 : ((nearD n a).take i).length ≤ 2 := by rw [List.length_take]; have := nearD_len (n := n) (a := a); omega
    have l3 : (difG n k).length ≤ 3 := flt_len 3
    have DB : B ≠ D := fun e => by rw [e, z0.2] at hB; cases hB
    refine ⟨D, E, _, _, rfl, rfl, s4 _ _ z.2, eE, by rw [li_len, li_len, List.length_append, List.length_singleton]; exact line_le (by omega), ?_⟩
    rw [flat_snoc hk, ← List.append_assoc]
    exact ⟨(z.step s4).ext hD, by rw [upd_ne DB]; exact s4 _ _ eB2, _, rfl⟩
  · rintro σ H2 ⟨z, eB2, v, rfl⟩
    tm_at "go"
    rw [List.take_length] at z
    exact q D _ z.1 hD z.2
theorem ok_GuessedSpread_first_needs (S : TX K mg) : OkF P w K mg base 3 (He.ma K (He.ga K "GuessedSpread") "first_needs") (p_sp K .guess firstG) := by
  refine okF (F_GuessedSpread_first_needs S) sc_GuessedSpread_first_needs (by tm_at "len") (fun _ _ _ _ _ _ us hl => match us, hl with | [_, _], _ => rfl) (fun cdv A outer s H vs Q E hr h => ?_)
  obtain ⟨p, n, a, rfl, Sp, hn, ha, q⟩ := h
  refine ⟨_, (pss_one (ps_ret (pe_op op_cat (pe_lst (pa_cons (pv 1) pa_nil)) (pe_lc (own := [("near", 2)]) (g := gName 2) (tt := tYes) rfl sc_GuessedSpread_first_needs.nd (kList (K := K) rfl (pe_d (k := 2) (m := "near_differences") (pv 0) (hr.mono (by decide)) (pa_cons (pv 1) pa_nil))) (blkOk_by (own := [("near", 2)]) (N := ["self", "at", "near"]) (sc := defScope s_GuessedSpread_first_needs) (by decide +kernel)) (fun _ _ _ _ _ => (pg_name (i := 2) sc_GuessedSpread_first_needs.nd rfl (Or.inl rfl))) (fun _ _ _ _ _ => pts_nil) (fun _ _ _ _ _ => (pe_op op_add (kFld (K := K) rfl (pv 0) rfl) (pv 2))))))), ?_⟩
  obtain ⟨dx0, hp⟩ := Sp
  tm_at "go"
  refine ⟨szL rfl, fun D hD => ?_⟩
  generalize hg : upd _ _ _ = H1
  obtain ⟨s1, eD⟩ := newF hg hD
  tm_at "go"
  obtain ⟨C, dx, f, e1, cl, m, o⟩ := dy_neard S (P := P) (w := w) (base := base) ⟨dx0, s1 _ _ hp⟩
  refine ⟨p, C, dx, fS n, f, _, rfl, e1, rfl, cl, m, o, ?_⟩
  tm_at "go"
  refine ⟨p, n, a, rfl, ⟨dx0, s1 _ _ hp⟩, hn, ha, fun B H2 s2 hB eB => ?_⟩
  refine gL1 (SqL.of eB) ?_
  intro E hE
  refine lcIt (wInts (xs := nearD n a)) (fun i H' => AccL H2 E (((nearD n a).take i).map fun k => ((hf n : Nat) : Int) + k) H') (AccL.nil hE) (fun i H' _ z => SqL.of (z.1 _ _ eB)) ?_ ?_
  · rintro i x H3 H4 hi z ⟨rfl, k, hk, rfl⟩
    tm_at "go"
    refine ⟨rfl, ?_⟩
    tm_at "go"
    refine gFldE (z.1 _ _ (s2 _ _ (s1 _ _ hp))) (spCls S .guess) (naTotals S .guess) rfl ?_
    have l2 : ((nearD n a).take i).length ≤ 2 := by rw [List.length_take]; have := nearD_len (n := n) (a := a); omega
    tm_at "go"
    refine ⟨_, z.2, by rw [li_len, List.length_map]; exact line_lt (by omega), ?_⟩
    rw [map_snoc hk]
    exact z.push hE rfl
  · rintro H3 z
    rw [List.take_length] at z
    have l2 := nearD_len (n := n) (a := a)
    refine ⟨D, E, _, _, rfl, rfl, z.1 _ _ (s2 _ _ eD), z.2, by rw [li_len, List.length_map]; exact line_le (by show 1 + _ ≤ _; omega), fun R hR => ?_⟩
    refine q R _ (s1.trans (s2.trans (z.1.trans (Same.new hR)))) (s1.free (s2.free (z.1.free hR))) ?_
    rw [upd_same]
    show _ = some (HO.lst (([a] ++ (nearD n a).map fun k => ((hf n : Nat) : Int) + k).map V.int))
    rw [List.map_append]
    rfl
/-- methods of a spread of any rule -/
theorem dy_sum (S : TX K mg) {H : Hp} {a : Addr} {r : Rl} {n : Nat} (h : SpreadAt K H a r n) : ∃ C dx f, H a = some (.ins C dx (fS n)) ∧ Cls K C ∧ Meth K C "sum_places" f ∧ OkF P w K mg base 6 f (p_sp K r (sumPl r)) := by
  obtain ⟨dx, e⟩ := h
  cases r with
  | sum => exact ⟨_, dx, _, e, cls_Spread S, me_Spread_sum_places S, (ok_Spread_sum_places S .sum).mono (by decide)⟩
  | half => exact ⟨_, dx, _, e, cls_Spread S, me_Spread_sum_places S, (ok_Spread_sum_places S .half).mono (by decide)⟩
  | guess => exact ⟨_, dx, _, e, cls_GuessedSpread S, me_GuessedSpread_sum_places S, (ok_GuessedSpread_sum_places S).mono (by decide)⟩
  | lean => exact ⟨_, dx, _, e, cls_LeaningSpread S, me_LeaningSpread_sum_places S, by rw [in_LeaningSpread_sum_places S]; exact (ok_Spread_sum_places S .lean).mono (by decide)⟩
theorem dy_dif (S : TX K mg) {H : Hp} {a : Addr} {r : Rl} {n : Nat} (h : SpreadAt K H a r n) : ∃ C dx f, H a = some (.ins C dx (fS n)) ∧ Cls K C ∧ Meth K C "difference_places" f ∧ OkF P w K mg base 6 f (p_sp K r (difPl r)) := by
  obtain ⟨dx, e⟩ := h
  cases r with
  | sum => exact ⟨_, dx, _, e, cls_Spread S, me_Spread_difference_places S, (ok_Spread_difference_places S .sum).mono (by decide)⟩
  | half => exact ⟨_, dx, _, e, cls_Spread S, me_Spread_difference_places S, (ok_Spread_difference_places S .half).mono (by decide)⟩
  | guess => exact ⟨_, dx, _, e, cls_GuessedSpread S, me_GuessedSpread_difference_places S, (ok_GuessedSpread_difference_places S .guess).mono (by decide)⟩
  | lean => exact ⟨_, dx, _, e, cls_LeaningSpread S, me_LeaningSpread_difference_places S, (ok_LeaningSpread_difference_places S).mono (by decide)⟩
theorem dy_first (S : TX K mg) {H : Hp} {a : Addr} {r : Rl} {n : Nat} (h : SpreadAt K H a r n) : ∃ C dx f, H a = some (.ins C dx (fS n)) ∧ Cls K C ∧ Meth K C "first_needs" f ∧ OkF P w K mg base 6 f (p_sp K r (firstN r)) := by
  obtain ⟨dx, e⟩ := h
  cases r with
  | sum => exact ⟨_, dx, _, e, cls_Spread S, me_Spread_first_needs S, (ok_Spread_first_needs S .sum).mono (by decide)⟩
  | half => exact ⟨_, dx, _, e, cls_Spread S, me_Spread_first_needs S, (ok_Spread_first_needs S .half).mono (by decide)⟩
  | guess => exact ⟨_, dx, _, e, cls_GuessedSpread S, me_GuessedSpread_first_needs S, (ok_GuessedSpread_first_needs S).mono (by decide)⟩
  | lean => exact ⟨_, dx, _, e, cls_LeaningSpread S, me_LeaningSpread_first_needs S, (ok_LeaningSpread_first_needs S).mono (by decide)⟩
theorem ok_Spread_second_needs (S : TX K mg) (r : Rl) : OkF P w K mg base 7 (He.ma K (He.ga K "Spread") "second_needs") (p_sp K r (firstN r)) := by
  refine okF (F_Spread_second_needs S) sc_Spread_second_needs (by tm_at "len") (fun _ _ _ _ _ _ us hl => match us, hl with | [_, _], _ => rfl) (fun cdv A outer s H vs Q E hr h => ?_)
  obtain ⟨p, n, a, rfl, Sp, hn, ha, q⟩ := h
  refine ⟨_, (pss_one (ps_ret (pe_d (k := 6) (m := "first_needs") (pv 0) (hr.mono (by decide)) (pa_cons (pv 1) pa_nil)))), ?_⟩
  tm_at "go"
  obtain ⟨C, dx, f, e, cl, m, o⟩ := dy_first S (P := P) (w := w) (base := base) Sp
  refine ⟨p, C, dx, fS n, f, _, rfl, e, rfl, cl, m, o, ?_⟩
  tm_at "go"
  exact ⟨p, n, a, rfl, Sp, hn, ha, q⟩
theorem ok_GuessedSpread_second_needs (S : TX K mg) : OkF P w K mg base 7 (He.ma K (He.ga K "GuessedSpread") "second_needs") (p_sp K .guess secondG) := by
  refine okF (F_GuessedSpread_second_needs S) sc_GuessedSpread_second_needs (by tm_at "len") (fun _ _ _ _ _ _ us hl => match us, hl with | [_, _], _ => rfl) (fun cdv A outer s H vs Q E hr h => ?_)
  obtain ⟨p, n, a, rfl, Sp, hn, ha, q⟩ := h
  refine ⟨_, (pss_cons (ps_set (i := 2) sc_GuessedSpread_second_needs.nd rfl (Or.inl rfl) (pe_op op_cat (pe_lst (pa_cons (pe_op op_add (kFld (K := K) rfl (pv 0) rfl) (pv 1)) pa_nil)) (pe_d (k := 6) (m := "first_needs") (pv 0) (hr.mono (by decide)) (pa_cons (pv 1) pa_nil))))
    (pss_cons (ps_if (pt_cmpR op_lt (pe_op op_add (pe_op op_mul pe_int (pv 1)) pe_int) (kFld (K := K) rfl (pv 0) rfl) (nomark _)) (pss_one (ps_set (i := 2) sc_GuessedSpread_second_needs.nd rfl (Or.inl rfl) (pe_op op_cat (pv 2) (pe_d (k := 6) (m := "first_needs") (pv 0) (hr.mono (by decide)) (pa_cons (pe_op op_add (pv 1) pe_int) pa_nil))))) pss_nil)
    (pss_one (ps_ret (pv 2))))), ?_⟩
  obtain ⟨dx0, hp⟩ := Sp
  tm_at "go"
  refine gFldE hp (spCls S .guess) (naTotals S .guess) rfl ?_
  tm_at "go"
  refine ⟨szL rfl, fun D hD => ?_⟩
  generalize hg : upd _ _ _ = H1
  obtain ⟨s1, eD⟩ := newF hg hD
  tm_at "go"
  obtain ⟨C, dx, f, e, cl, m, o⟩ := dy_first S (P := P) (w := w) (base := base) ⟨dx0, s1 _ _ hp⟩
  refine ⟨p, C, dx, fS n, f, _, rfl, e, rfl, cl, m, o, ?_⟩
  tm_at "go"
  refine ⟨p, n, a, rfl, ⟨dx0, s1 _ _ hp⟩, hn, ha, fun B H2 s2 hB eB => ?_⟩
  have l1 : (firstG n a).length ≤ 4 := firstN_len .guess
  have eB : H2 B = some (lI (firstG n a)) := eB
  refine ⟨D, B, _, _, rfl, rfl, s2 _ _ eD, eB, by rw [li_len]; exact line_le (by show 1 + _ ≤ _; omega), fun R hR => ?_⟩
  generalize hg3 : upd _ _ _ = H3
  obtain ⟨s3, eR⟩ := newF hg3 hR
  have eR2 : H3 R = some (lI ([((hf n : Nat) : Int) + a] ++ firstG n a)) := by
    rw [eR]
    show _ = some (HO.lst (([((hf n : Nat) : Int) + a] ++ firstG n a).map V.int))
    rw [List.map_append]
    rfl
  have nR : H R = none := s1.free (s2.free hR)
  tm_at "go"
  have h3 := s3 _ _ (s2 _ _ (s1 _ _ hp))
  refine gFldE h3 (spCls S .guess) (naSize S .guess) rfl ?_
  tm_at "go"
  by_cases e2 : 2 * a + 2 < (n : Int)
  · refine gIfT (decide_eq_true e2) ?_
    tm_at "go"
    obtain ⟨C, dx, f, e, cl, m, o⟩ := dy_first S (P := P) (w := w) (base := base) ⟨dx0, h3⟩
    refine ⟨p, C, dx, fS n, f, _, rfl, e, rfl, cl, m, o, ?_⟩
    tm_at "go"
    refine ⟨p, n, a + 1, rfl, ⟨dx0, h3⟩, hn, by omega, fun B2 H4 s4 hB2 eB2 => ?_⟩
    have l3 : (firstG n (a + 1)).length ≤ 4 := firstN_len .guess
    have eB2 : H4 B2 = some (lI (firstG n (a + 1))) := eB2
    refine ⟨R, B2, _, _, rfl, rfl, s4 _ _ eR2, eB2, by rw [li_len, li_len, List.length_append, List.length_singleton]; exact line_le (by omega), fun R2 hR2 => ?_⟩
    tm_at "go"
    refine q R2 _ (s1.trans (s2.trans (s3.trans (s4.trans (Same.new hR2))))) (s1.free (s2.free (s3.free (s4.free hR2)))) ?_
    rw [upd_same, show secondG n a = ([((hf n : Nat) : Int) + a] ++ firstG n a) ++ firstG n (a + 1) from if_pos e2]
    show _ = some (HO.lst ((([((hf n : Nat) : Int) + a] ++ firstG n a) ++ firstG n (a + 1)).map V.int))
    simp only [List.map_append]
  · refine gIfF (decide_eq_false e2) ?_
    tm_at "go"
    refine q R _ (s1.trans (s2.trans s3)) nR ?_
    rw [show secondG n a = [((hf n : Nat) : Int) + a] ++ firstG n a from if_neg e2]
    exact eR2
theorem dy_second (S : TX K mg) {H : Hp} {a : Addr} {r : Rl} {n : Nat} (h : SpreadAt K H a r n) : ∃ C dx f, H a = some (.ins C dx (fS n)) ∧ Cls K C ∧ Meth K C "second_needs" f ∧ OkF P w K mg base 8 f (p_sp K r (secondN r)) := by
  obtain ⟨dx, e⟩ := h
  cases r with
  | sum => exact ⟨_, dx, _, e, cls_Spread S, me_Spread_second_needs S, (ok_Spread_second_needs S .sum).mono (by decide)⟩
  | half => exact ⟨_, dx, _, e, cls_Spread S, me_Spread_second_needs S, (ok_Spread_second_needs S .half).mono (by decide)⟩
  | guess => exact ⟨_, dx, _, e, cls_GuessedSpread S, me_GuessedSpread_second_needs S, (ok_GuessedSpread_second_needs S).mono (by decide)⟩
  | lean => exact ⟨_, dx, _, e, cls_LeaningSpread S, me_LeaningSpread_second_needs S, by rw [in_LeaningSpread_second_needs S]; exact (ok_Spread_second_needs S .lean).mono (by decide)⟩
/-- a sorted list of the distinct members -/
def p_spS (K : PySem.W.Frag) (r : Rl) (L : Nat → Int → List Int) : Pm := fun vs H Q => ∃ (p : Addr) (n : Nat) (a : Int), vs = [.ref p, .int a] ∧ SpreadAt K H p r n ∧ n ≤ 64 ∧ (0 ≤ a ∧ a ≤ 100) ∧ ∀ D ms H', Same H H' → H D = none → ms.Pairwise (· < ·) → (∀ k, k ∈ ms ↔ k ∈ L n a) → H' D = some (lI ms) → Q (.ref D) H'
theorem ok_Spread_spread_at (S : TX K mg) (r : Rl) : OkF P w K mg base 7 (He.ma K (He.ga K "Spread") "spread_at") (p_spS K r (spreadL r)) := by
  refine okF (F_Spread_spread_at S) sc_Spread_spread_at (by tm_at "len") (fun _ _ _ _ _ _ us hl => match us, hl with | [_, _], _ => rfl) (fun cdv A outer s H vs Q E hr h => ?_)
  obtain ⟨p, n, a, rfl, Sp, hn, ha, q⟩ := h
  refine ⟨_, (pss_cons (ps_if (pt_cmpR op_lt (pv 1) (kFld (K := K) rfl (pv 0) rfl) (nomark _)) (pss_one (ps_ret (pe_ss (K := K) rfl rfl rfl (fr_sorted S) rfl (fr_set S) (pe_d (k := 6) (m := "sum_places") (pv 0) (hr.mono (by decide)) (pa_cons (pv 1) pa_nil))))) pss_nil)
    (pss_one (ps_ret (pe_ss (K := K) rfl rfl rfl (fr_sorted S) rfl (fr_set S) (pe_d (k := 6) (m := "difference_places") (pv 0) (hr.mono (by decide)) (pa_cons (pe_op op_sub (pv 1) (kFld (K := K) rfl (pv 0) rfl)) pa_nil)))))), ?_⟩
  have Sp0 := Sp
  obtain ⟨dx0, hp⟩ := Sp0
  tm_at "go"
  refine gFldE hp (spCls S r) (naTotals S r) rfl ?_
  tm_at "go"
  have hh : (hf n : Int) ≤ 33 := by unfold hf; omega
  by_cases e : a < ((hf n : Nat) : Int)
  · refine gIfT (decide_eq_true e) ?_
    tm_at "go"
    obtain ⟨C, dx, f, e1, cl, m, o⟩ := dy_sum S (P := P) (w := w) (base := base) Sp
    refine ⟨p, C, dx, fS n, f, _, rfl, e1, rfl, cl, m, o, ?_⟩
    tm_at "go"
    refine ⟨p, n, a, rfl, Sp, hn, by omega, fun B H1 s1 hB eB => ?_⟩
    have := sumPl_len r (n := n) (a := a)
    refine ⟨B, _, rfl, SqL.of eB, by omega, fun ms D H2 pw hm hD s2 eD => ?_⟩
    exact q D ms H2 (s1.trans s2) (s1.free hD) pw (fun k => by rw [hm, show spreadL r n a = sumPl r n a from if_pos e]) eD
  · refine gIfF (decide_eq_false e) ?_
    tm_at "go"
    obtain ⟨C, dx, f, e1, cl, m, o⟩ := dy_dif S (P := P) (w := w) (base := base) Sp
    refine ⟨p, C, dx, fS n, f, _, rfl, e1, rfl, cl, m, o, ?_⟩
    tm_at "go"
    refine gFldE hp (spCls S r) (naTotals S r) rfl ?_
    tm_at "go"
    refine ⟨p, n, a - (hf n : Nat), rfl, Sp, hn, by omega, fun B H1 s1 hB eB => ?_⟩
    have := difPl_len r (n := n) (a := a - (hf n : Nat))
    refine ⟨B, _, rfl, SqL.of eB, by omega, fun ms D H2 pw hm hD s2 eD => ?_⟩
    exact q D ms H2 (s1.trans s2) (s1.free hD) pw (fun k => by rw [hm, show spreadL r n a = difPl r n (a - (hf n : Nat)) from if_neg e]) eD
theorem ok_Spread_back_at (S : TX K mg) (r : Rl) : OkF P w K mg base 9 (He.ma K (He.ga K "Spread") "back_at") (p_spS K r (backL r)) := by
  refine okF (F_Spread_back_at S) sc_Spread_back_at (by tm_at "len") (fun _ _ _ _ _ _ us hl => match us, hl with | [_, _], _ => rfl) (fun cdv A outer s H vs Q E hr h => ?_)
  obtain ⟨p, n, a, rfl, Sp, hn, ha, q⟩ := h
  refine ⟨_, (pss_cons (ps_if (pt_cmpR op_eq (pe_op op_and (pv 1) pe_int) pe_int (nomark _)) (pss_one (ps_ret (pe_ss (K := K) rfl rfl rfl (fr_sorted S) rfl (fr_set S) (pe_d (k := 8) (m := "second_needs") (pv 0) (hr.mono (by decide)) (pa_cons (pe_op op_fdiv (pv 1) pe_int) pa_nil))))) pss_nil)
    (pss_one (ps_ret (pe_ss (K := K) rfl rfl rfl (fr_sorted S) rfl (fr_set S) (pe_d (k := 6) (m := "first_needs") (pv 0) (hr.mono (by decide)) (pa_cons (pe_op op_fdiv (pv 1) pe_int) pa_nil)))))), ?_⟩
  tm_at "go"
  rw [PyProof.Rows.bitAnd_m1]
  by_cases e : a % 2 = 1
  · refine gIfT (decide_eq_true (congrArg V.int e)) ?_
    tm_at "go"
    obtain ⟨C, dx, f, e1, cl, m, o⟩ := dy_second S (P := P) (w := w) (base := base) Sp
    refine ⟨p, C, dx, fS n, f, _, rfl, e1, rfl, cl, m, o, ?_⟩
    tm_at "go"
    refine ⟨p, n, a / 2, rfl, Sp, hn, by omega, fun B H1 s1 hB eB => ?_⟩
    have := secondN_len r (n := n) (a := a / 2)
    refine ⟨B, _, rfl, SqL.of eB, by omega, fun ms D H2 pw hm hD s2 eD => ?_⟩
    exact q D ms H2 (s1.trans s2) (s1.free hD) pw (fun k => by rw [hm, show backL r n a = secondN r n (a / 2) from if_pos e]) eD
  · refine gIfF (decide_eq_false (fun z => e (by injection z))) ?_
    tm_at "go"
    obtain ⟨C, dx, f, e1, cl, m, o⟩ := dy_first S (P := P) (w := w) (base := base) Sp
    refine ⟨p, C, dx, fS n, f, _, rfl, e1, rfl, cl, m, o, ?_⟩
    tm_at "go"
    refine ⟨p, n, a / 2, rfl, Sp, hn, by omega, fun B H1 s1 hB eB => ?_⟩
    have := firstN_len r (n := n) (a := a / 2)
    refine ⟨B, _, rfl, SqL.of eB, by omega, fun ms D H2 pw hm hD s2 eD => ?_⟩
    exact q D ms H2 (s1.trans s2) (s1.free hD) pw (fun k => by rw [hm, show backL r n a = firstN r n (a / 2) from if_neg e]) eD
theorem dy_spread (S : TX K mg) {H : Hp} {a : Addr} {r : Rl} {n : Nat} (h : SpreadAt K H a r n) : ∃ C dx f, H a = some (.ins C dx (fS n)) ∧ Cls K C ∧ Meth K C "spread_at" f ∧ OkF P w K mg base 8 f (p_spS K r (spreadL r)) := by
  obtain ⟨dx, e⟩ := h
  cases r with
  | sum => exact ⟨_, dx, _, e, cls_Spread S, me_Spread_spread_at S, (ok_Spread_spread_at S .sum).mono (by decide)⟩
  | half => exact ⟨_, dx, _, e, cls_Spread S, me_Spread_spread_at S, (ok_Spread_spread_at S .half).mono (by decide)⟩
  | guess => exact ⟨_, dx, _, e, cls_GuessedSpread S, me_GuessedSpread_spread_at S, by rw [in_GuessedSpread_spread_at S]; exact (ok_Spread_spread_at S .guess).mono (by decide)⟩
  | lean => exact ⟨_, dx, _, e, cls_LeaningSpread S, me_LeaningSpread_spread_at S, by rw [in_LeaningSpread_spread_at S]; exact (ok_Spread_spread_at S .lean).mono (by decide)⟩
theorem dy_back (S : TX K mg) {H : Hp} {a : Addr} {r : Rl} {n : Nat} (h : SpreadAt K H a r n) : ∃ C dx f, H a = some (.ins C dx (fS n)) ∧ Cls K C ∧ Meth K C "back_at" f ∧ OkF P w K mg base 10 f (p_spS K r (backL r)) := by
  obtain ⟨dx, e⟩ := h
  cases r with
  | sum => exact ⟨_, dx, _, e, cls_Spread S, me_Spread_back_at S, (ok_Spread_back_at S .sum).mono (by decide)⟩
  | half => exact ⟨_, dx, _, e, cls_Spread S, me_Spread_back_at S, (ok_Spread_back_at S .half).mono (by decide)⟩
  | guess => exact ⟨_, dx, _, e, cls_GuessedSpread S, me_GuessedSpread_back_at S, by rw [in_GuessedSpread_back_at S]; exact (ok_Spread_back_at S .guess).mono (by decide)⟩
  | lean => exact ⟨_, dx, _, e, cls_LeaningSpread S, me_LeaningSpread_back_at S, by rw [in_LeaningSpread_back_at S]; exact (ok_Spread_back_at S .lean).mono (by decide)⟩
end
end Kp
/-! dicts whose keys are tuples: a display of one pair, dict(list of pairs) -/
namespace Kp
open PySem PySem.Spec PyProof.Rows L2
abbrev LK := List L2.Key
theorem dictT_ok {P : Program} {w : World} {H : Hp} {h : Heap} {d : Addr} {kvs : List (LK × V)} {xs : List (LK × Addr × Value)} (r : KT H kvs xs) (hn : H d = none) (hl : kvs.length ≤ sizeLine) (hs : (d == sysModules) = false) (hd : h.DictOfH (tupleKind (mixKind P w)) d xs) : ObjOk P w (upd H d (.dT kvs)) h d (.dT kvs) := by
  obtain ⟨o, es, ep, h1, h2, h3, h4, _, h5⟩ := hd
  exact ⟨hl, hs, xs, r.keeps fun b ys e => by rw [upd_ne (ne_of_none e hn)]; exact e, o, es, ep, h1, h2, h3, h4, h5⟩
def tD1 (tk tv : TE) : TE := fun σ H Q => ∀ p, H p = none → tk σ (upd H p (.dT [])) fun x H1 => tv σ H1 fun y H2 => ∃ (b : Addr) (k : LK), x = .ref b ∧ H2 b = some (.tup (k.map kV)) ∧ H2 p = some (.dT []) ∧ Q (.ref p) (upd H2 p (.dT [(k, y)]))
theorem gD1 {tk tv : TE} {σ : L2.St} {H : Hp} {Q : VK} (h : ∀ p, H p = none → tk σ (upd H p (.dT [])) fun x H1 => tv σ H1 fun y H2 => ∃ (b : Addr) (k : LK), x = .ref b ∧ H2 b = some (.tup (k.map kV)) ∧ H2 p = some (.dT []) ∧ Q (.ref p) (upd H2 p (.dT [(k, y)]))) : tD1 tk tv σ H Q := h
section
variable {X : Cx}
theorem pe_d1 {k v : Expr} {tk tv : TE} {pos : Pos} (hu : X.A.units + 1 < cLine) (hk : PE X k tk) (hv : PE X v tv) : PE X (.Dict [some k] [v] pos) (tD1 tk tv) := by
  refine ⟨fun pins s σ H Q I q => ?_⟩
  have hn := I.hok.fresh (Nat.le_refl s.heap.objs.size)
  have I1 := I.laid (a := s.heap.objs.size) (o := .dT []) (h' := s.heap.push { cls := .type "dict", data := .dict #[] }) (t' := s.toks) (fun _ _ q => Heap.get?_push_of_some _ q) (Nat.le_refl _) (dt_empty s.heap I.big)
  rw [arm_eval_Dict, zip_pairTrees [some k] [v] X.env pos rfl rfl, dictDisplay_pairs (pairTrees [some k] [v] X.env pos) (by simp [pairTrees]) (by simp [pairTrees])]
  refine wpAny_bind (wpAny_standAt (wpAny_bind (wpAny_subDictH (knd := tupleKind (mixKind X.prog X.w)) (Q := fun d s' => wpAny (model X.prog X.w) X.A (pure (Value.ref d)) (EP X pins σ Q) X.xe s') (show X.A.units < cLine by omega) (by simp [pairTrees]) (pairTrees_cons_walk (thn (hk.run pins _ σ _ _ I1 (q _ hn)) fun u s1 ⟨x, H1, I2, rx, q1⟩ => thn (hv.run pins s1 σ H1 _ I2 q1) fun u2 s2 ⟨y, H2, I3, ry, b, kk, ex, eb, ed, q2⟩ => pairTrees_nil_walk ?_)))))
  subst ex
  cases rx
  obtain ⟨z, hd, xs0, r0, dd⟩ := dt_of I3.hok ed
  cases r0
  refine ⟨[(kk, b, u2)], ⟨rfl, rfl, key_of I3.hok eb, True.intro⟩, dd, fun h' tk dd' hs => wpAny_pure ⟨.ref s.heap.objs.size, upd H2 s.heap.objs.size (.dT [(kk, y)]), ?_, rfl, q2⟩⟩
  obtain ⟨o, es, ep, h1, h2, h3, h4, _, h5⟩ := dd'
  have kt : KT (upd H2 s.heap.objs.size (.dT [(kk, y)])) [(kk, y)] [(kk, b, u2)] := .cons ⟨rfl, by rw [upd_ne (fun (e : b = s.heap.objs.size) => by rw [e, ed] at eb; cases eb)]; exact eb, ry⟩ .nil
  exact d_write I3 (by rw [ed]; exact True.intro) hs ⟨o, h1⟩ ⟨by show 1 ≤ sizeLine; decide, hd, _, kt, o, es, ep, h1, h2, h3, h4, h5⟩
/-- the pairs ts (the pair's tuple, the key's tuple, the key), all to True, put one after another -/
def putAll (kvs : List (LK × V)) (ts : List (Addr × Addr × LK)) : List (LK × V) := ts.foldl (fun acc t => putK acc t.2.2 (.bl true)) kvs
theorem putAll_len : ∀ (ts : List (Addr × Addr × LK)) (kvs : List (LK × V)), (putAll kvs ts).length ≤ kvs.length + ts.length
  | [], kvs => Nat.le_refl _
  | t :: ts, kvs => by
    have h1 := putAll_len ts (putK kvs t.2.2 (.bl true))
    have h2 := length_putK kvs t.2.2 (.bl true)
    show (putAll (putK kvs t.2.2 (.bl true)) ts).length ≤ _
    rw [List.length_cons]
    omega
def trip (t : Addr × Addr × LK) : LK × Addr × Value := (t.2.2, t.2.1, .bool true)
theorem kt_all {H : Hp} : ∀ (ts : List (Addr × Addr × LK)) {kvs : List (LK × V)} {xs : List (LK × Addr × Value)}, (∀ t ∈ ts, H t.2.1 = some (.tup (t.2.2.map kV))) → KT H kvs xs → KT H (putAll kvs ts) (storedAllH xs (ts.map trip))
  | [], _, _, _, r => r
  | t :: ts, kvs, xs, h, r => kt_all ts (fun u hu => h u (List.mem_cons_of_mem _ hu)) (r.put t.2.2 (h t List.mem_cons_self) (show RelV (.bl true) (.bool true) from rfl))
def rDictT (K : PySem.W.Frag) : List V → Hp → VK → Prop := fun xs H Q => ∃ (a : Addr) (ts : List (Addr × Addr × LK)), xs = [.ref a] ∧ SqL K H a (ts.map fun t => V.ref t.1) ∧ (∀ t ∈ ts, SqT K H t.1 [.ref t.2.1, .bl true] ∧ H t.2.1 = some (.tup (t.2.2.map kV))) ∧ ∀ p, H p = none → Q (.ref p) (upd H p (.dT (putAll [] ts)))
theorem refs_us {α : Type} {f : α → Addr} : ∀ {ts : List α} {us : List Value}, Vals (ts.map fun t => V.ref (f t)) us → us = ts.map fun t => Value.ref (f t)
  | [], us, r => by rw [List.map_nil] at r; cases r; rfl
  | t :: ts, us, r => by
    rw [List.map_cons] at r
    cases r with
    | cons h t2 => cases h; rw [List.map_cons, ← refs_us t2]
theorem call_dictT {K : PySem.W.Frag} (hK : X.K = K) (hc : X.calm = true) (hu : X.A.units + 2 < cLine) : CallR X (.type "dict") (rDictT K) := by
  subst hK
  intro pins s σ H xs us Q I r h
  obtain ⟨a, ts, rfl, hq, ht, q⟩ := h
  obtain ⟨u, rfl, rx⟩ := vals1 r
  cases rx
  obtain ⟨its, rv, pl, hz⟩ := I.list hq
  have ei := refs_us rv
  subst ei
  rw [List.length_map] at hz
  have hn : H s.heap.objs.size = none := I.hok.fresh (Nat.le_refl _)
  have hp : PairItems s.heap (ts.map fun t => Value.ref t.1).toArray (fun j => ((ts[j]?).map (·.1)).getD 0) (ts.map fun t => (Value.ref t.2.1, Value.bool true)) := by
    refine ⟨by simp, fun j k v e => ?_⟩
    rw [List.getElem?_map] at e
    obtain ⟨t, et, e⟩ := Option.map_eq_some_iff.mp e
    cases e
    obtain ⟨its2, r2, p2, _⟩ := I.tuple (ht t (List.mem_of_getElem? et)).1
    have e3 : its2 = [Value.ref t.2.1, Value.bool true] := by
      cases r2 with
      | cons a1 b1 =>
        cases b1 with
        | cons a2 b2 =>
          cases b2
          cases a1
          cases a2
          rfl
    rw [e3] at p2
    refine ⟨?_, .inl ?_⟩
    · show (ts.map fun t => Value.ref t.1).toArray[j]? = some (.ref (((ts[j]?).map (·.1)).getD 0))
      rw [List.getElem?_toArray, List.getElem?_map, et]
      rfl
    · show s.heap.IsTuple (((ts[j]?).map (·.1)).getD 0) #[Value.ref t.2.1, Value.bool true]
      rw [et]
      exact p2
  have hst : ∀ h', (∀ b o, b ≠ s.heap.objs.size → s.heap.get? b = some o → h'.get? b = some o) → ∀ x ∈ ts.map trip, (tupleKind (mixKind X.prog X.w)).is h' x.1 x.2.1 := fun h' hk x hx => by
    obtain ⟨t, hm, rfl⟩ := List.mem_map.mp hx
    have I2 : L2.Inv X pins σ H { s with heap := h', toks := s.toks } := I.kept fun b o e => hk b o (Nat.ne_of_lt (Heap.lt_size e)) e
    exact key_of I2.hok (ht t hm).2
  refine call_dict_pairsH (knd := tupleKind (mixKind X.prog X.w)) (ps := ts.map trip) (PairArg.list a _ _ _) (I.ok.hd hc) (show X.A.units + 2 < cLine from hu) ⟨pl, hp⟩ ⟨by simp, fun i key v e => ?_⟩ (fun h' hk x hx => hst h' (fun b o nb e => hk b o nb (fun z => nomatch z) e) x hx) (by simpa using hz) fun h' tk hd' k => ?_
  · have e : (ts.map fun t => (Value.ref t.2.1, Value.bool true))[i]? = some (key, v) := e
    rw [List.getElem?_map] at e
    obtain ⟨t, et, e⟩ := Option.map_eq_some_iff.mp e
    cases e
    exact ⟨t.2.2, t.2.1, by rw [List.getElem?_map, et]; rfl, rfl⟩
  · have hm : (s.heap.objs.size == sysModules) = false := beq_eq_false_iff_ne.mpr (Nat.ne_of_gt I.big)
    have hl : (putAll [] ts).length ≤ sizeLine := by
      have := putAll_len ts []
      rw [List.length_nil] at this
      omega
    exact ⟨.ref s.heap.objs.size, _, I.laid (t' := tk) (fun b u e => k b u (fun z => nomatch z) e) (Nat.le_refl _) (dictT_ok (kt_all ts (fun t h => (ht t h).2) .nil) hn hl hm hd'), rfl, q _ hn⟩
end
theorem kSortedPO {X : Cx} {K : PySem.W.Frag} (hK : X.K = K) : CallR X (.builtin "sorted") (rSortedPO K) := by subst hK; exact cr_sortedPO
theorem ru1 {a : Nat} (h : a + 64 < cLine) : a + 1 < cLine := by omega
theorem ru2 {a : Nat} (h : a + 64 < cLine) : a + 2 < cLine := by omega
end Kp
local macro_rules | `(tactic| tm_at "go") => `(tactic| repeat (first | (with_reducible first | refine Kp.gSeq ?_ | refine Kp.gAsg ?_ | refine Kp.gNm ?_ | refine Kp.gOp ?_ | refine Kp.gC ?_ | refine Kp.gI0 ?_ | refine Kp.gCons0 ?_ | refine Kp.gNil0 ?_ | refine Kp.gTest ?_ | refine Kp.gBl ?_ | refine Kp.gIfS ?_ | refine Kp.gB ?_ | refine Kp.gRet ?_ | refine Kp.gNext ?_ | refine Kp.gFn ?_ | refine Kp.gMeth ?_ | refine Kp.gMk ?_ | refine Kp.gCB ?_ | refine Kp.gFld ?_ | refine Kp.gNot ?_ | refine Kp.gOr ?_ | refine Kp.gAnd ?_ | refine Kp.gChain ?_ | refine Kp.gUn ?_ | refine Kp.gU ?_ | refine Kp.gTupE ?_ | refine Kp.gLstE ?_ | refine Kp.gDrop ?_ | refine Kp.gBM ?_ | refine Kp.gSl ?_ | refine Kp.gNoP ?_ | refine Kp.gPart ?_ | refine Kp.gPartE ?_ | refine Kp.gFor ?_ | refine Kp.gLc ?_ | refine Kp.gYes ?_ | refine Kp.gSFld ?_ | refine Kp.gSb ?_ | refine Kp.gCs ?_ | refine Kp.gNl ?_ | refine Kp.gIL ?_ | refine Kp.gITup ?_ | refine Kp.gIR1 ?_ | refine Kp.gIR2 ?_ | refine Kp.gIE ?_ | refine Kp.gIZ ?_ | refine Kp.gIS ?_ | refine Kp.gAndV ?_ | refine Kp.gOrV ?_ | refine Kp.gNotV ?_ | refine Kp.gS1 ?_ | refine Kp.gDyn ?_ | refine Kp.gStp ?_ | refine Kp.gSlcE ?_ | refine Kp.gSs ?_ | refine Kp.gRv ?_ | refine Kp.gRg1 ?_ | refine Kp.gRg2 ?_ | refine Kp.gD2 ?_ | refine Kp.gD4 ?_ | refine Kp.gM2 ?_ | refine Kp.gBreak ?_ | refine Kp.gCont ?_ | refine Kp.gRetN ?_) | ((with_reducible apply Kp.gVar); (focus exact rfl)) | ((with_reducible refine Kp.gIfT ?_ ?_); (focus exact rfl)) | ((with_reducible refine Kp.gIfF ?_ ?_); (focus exact rfl)) | ((with_reducible refine Kp.gEq ?_ ?_); (focus exact rfl)) | ((with_reducible refine Kp.gNe ?_ ?_); (focus exact rfl)) | ((with_reducible apply Kp.gIsi); (focus (first | exact Kp.Isi.ii | exact Kp.Isi.ib | exact Kp.Isi.ss | exact Kp.Isi.ll (by assumption) | exact Kp.Isi.tt (by assumption))))))
local macro_rules | `(tactic| tm_at "gi") => `(tactic| repeat (first | (with_reducible first | refine Kp.gAsg ?_ | refine Kp.gNm ?_ | refine Kp.gOp ?_ | refine Kp.gC ?_ | refine Kp.gI0 ?_ | refine Kp.gTest ?_ | refine Kp.gBl ?_ | refine Kp.gIfS ?_ | refine Kp.gAnd ?_ | refine Kp.gRet ?_ | refine Kp.gNext ?_ | refine Kp.gMeth ?_ | refine Kp.gFld ?_ | refine Kp.gCons0 ?_ | refine Kp.gNil0 ?_) | ((with_reducible apply Kp.gVar); (focus exact rfl)) | ((with_reducible refine Kp.gIfT ?_ ?_); (focus exact rfl)) | ((with_reducible refine Kp.gIfF ?_ ?_); (focus exact rfl)) | ((with_reducible refine Kp.gEq ?_ ?_); (focus exact rfl))))
/-! which numbers a place hangs on, which it needs -/
namespace Kp
open PySem PySem.Spec L2
def TabAt (H : Hp) (D : Addr) (n : Nat) (L : Int → List Int) : Prop := ∃ (ta : Nat → Addr) (ms : Nat → List Int), H D = some (.lst (tab n fun i => .ref (ta i))) ∧ ∀ i, i < n → H (ta i) = some (lI (ms i)) ∧ ∀ k, k ∈ ms i ↔ k ∈ L (i : Int)
theorem TabAt.same {H H' : Hp} {D : Addr} {n : Nat} {L : Int → List Int} (t : TabAt H D n L) (s : Same H H') : TabAt H' D n L := let ⟨ta, ms, e, h⟩ := t; ⟨ta, ms, s _ _ e, fun i hi => ⟨s _ _ (h i hi).1, (h i hi).2⟩⟩
theorem kDy {P : Program} {w : World} {K : PySem.W.Frag} {mg : Str → Option Value} {base : Heap} {X : Cx} {k : Nat} {m : Str} {pos apos : Pos} {e o : Expr} {es : List Expr} {ta : TE} {t : TA} (hx : X.prog = P ∧ X.w = w ∧ X.K = K ∧ X.mg = mg ∧ X.base = base) {pl : Sem Bool} (he : PE X o ta) (hr : Room k X.A) (ha : PA X (e :: es) t)
    (hst : starEach (e :: es) X.env = (false, eval e X.env) :: starEach es X.env := by rfl) (hpl : (backTo pos (starEach es X.env)).any (·.1) = false := by rfl)
    (ht : eval (.Call (.Attribute o m apos) (e :: es) [] pos) X.env = (do
      let ov ← eval o X.env
      standAt apos.atName
      let (f, first) ← holding [ov] (getMethod ov m pl)
      callWith pos f first (backTo pos (starEach (e :: es) X.env)) (backToKw pos (keywordEach [] X.env))) := by rfl) : PE X (.Call (.Attribute o m apos) (e :: es) [] pos) (tD P w K mg base k m ta t) := by
  obtain ⟨rfl, rfl, rfl, rfl, rfl⟩ := hx
  exact pe_d he hr ha hst hpl ht
def p_spread_by (K : PySem.W.Frag) : Pm := fun vs H Q => ∃ (r : Rl) (n : Nat), vs = [.str r.word, .int (n : Nat)] ∧ ∀ a H', Same H H' → SpreadAt K H' a r n → Q (.ref a) H'
def p_tables (L : Rl → Nat → Int → List Int) : Pm := fun vs H Q => ∃ (r : Rl) (n : Nat), vs = [.str r.word, .int (n : Nat)] ∧ n ≤ 64 ∧ ∀ D H', Same H H' → TabAt H' D n (L r n) → Q (.ref D) H'
section
variable {P : Program} {w : World} {K : PySem.W.Frag} {mg : Str → Option Value} {base : Heap}
theorem ok_Spread_ini (S : TX K mg) : OkF P w K mg base 1 (He.ma K (He.ga K "Spread") "__init__") (p_SpreadI K "Spread") := ok_SpreadI S "Spread"
theorem ok_GuessedSpread_ini (S : TX K mg) : OkF P w K mg base 1 (He.ma K (He.ga K "GuessedSpread") "__init__") (p_SpreadI K "GuessedSpread") := by rw [in_GuessedSpread_init S]; exact ok_SpreadI S "GuessedSpread"
theorem ok_LeaningSpread_ini (S : TX K mg) : OkF P w K mg base 1 (He.ma K (He.ga K "LeaningSpread") "__init__") (p_SpreadI K "LeaningSpread") := by rw [in_LeaningSpread_init S]; exact ok_SpreadI S "LeaningSpread"
theorem mkSpread {H : Hp} {x dx : Addr} {Q : VK} {r : Rl} {n : Nat} {c : Str} (hc : c = r.sc) (q : ∀ a H', Same H H' → SpreadAt K H' a r n → Q (.ref a) H') (h1 : H x = none) (h2 : H dx = none) (ne : dx ≠ x) :
    p_SpreadI K c [.ref x, .int (n : Nat)] (upd (upd H dx (.own x)) x (.ins (He.ga K c) dx [])) fun v H2 => v = .non ∧ Q (.ref x) H2 := by
  subst hc
  have s2 : Same H (upd (upd H dx (.own x)) x (.ins (He.ga K r.sc) dx [])) := (Same.new h2).trans (Same.new (by rw [upd_ne ne.symm]; exact h1))
  exact ⟨x, dx, r, n, rfl, rfl, upd_same, fun H' s F => ⟨rfl, q x H' (fun b o e => s b o (ne_of_none e h1) (s2 _ _ e)) F⟩⟩
theorem ok_spread_by (S : TX K mg) : OkF P w K mg base 3 (He.ga K "spread_by") (p_spread_by K) := by
  refine okF (F_spread_by S) sc_spread_by (by tm_at "len") (fun _ _ _ _ _ _ us hl => match us, hl with | [_, _], _ => rfl) (fun cdv A outer s H vs Q E hr h => ?_)
  obtain ⟨r, n, rfl, q⟩ := h
  refine ⟨_, (pss_cons (ps_if (pt_cmpR op_eq (pv 0) pe_str (nomark _)) (pss_one (ps_ret (pe_mk (mkr_GuessedSpread S) (ok_GuessedSpread_ini S) (hr.mono (by decide)) rfl (glo_GuessedSpread S) (pa_cons (pv 1) pa_nil)))) pss_nil)
    (pss_cons (ps_if (pt_cmpR op_eq (pv 0) pe_str (nomark _)) (pss_one (ps_ret (pe_mk (mkr_LeaningSpread S) (ok_LeaningSpread_ini S) (hr.mono (by decide)) rfl (glo_LeaningSpread S) (pa_cons (pv 1) pa_nil)))) pss_nil)
    (pss_one (ps_ret (pe_mk (mkr_Spread S) (ok_Spread_ini S) (hr.mono (by decide)) rfl (glo_Spread S) (pa_cons (pv 1) pa_nil)))))), ?_⟩
  cases r with
  | sum =>
    tm_at "go"
    exact fun x dx => mkSpread rfl q
  | half =>
    tm_at "go"
    exact fun x dx => mkSpread rfl q
  | guess =>
    tm_at "go"
    exact fun x dx => mkSpread rfl q
  | lean =>
    tm_at "go"
    exact fun x dx => mkSpread rfl q
theorem ok_spread_tables (S : TX K mg) : OkF P w K mg base 9 (He.ga K "spread_tables") (p_tables spreadL) := by
  refine okF (F_spread_tables S) sc_spread_tables (by tm_at "len") (fun _ _ _ _ _ _ us hl => match us, hl with | [_, _], _ => rfl) (fun cdv A outer s H vs Q E hr h => ?_)
  obtain ⟨r, n, rfl, hn, q⟩ := h
  refine ⟨_, (pss_cons (ps_set (i := 2) sc_spread_tables.nd rfl (Or.inr rfl) (pe_f (ok_spread_by S) (hr.mono (by decide)) rfl (glo_spread_by S) (pa_cons (pv 0) (pa_cons (pv 1) pa_nil))))
    (pss_one (ps_ret (pe_lc (own := [("place", 3)]) (g := gName 3) (tt := tYes) rfl sc_spread_tables.nd (pi_range1 rfl (fr_range S) (pa_cons (pv 1) pa_nil)) (blkOk_by (own := [("place", 3)]) (N := ["word", "size", "made", "place"]) (sc := defScope s_spread_tables) (by decide +kernel)) (fun _ _ _ _ _ => (pg_name (i := 3) sc_spread_tables.nd rfl (Or.inl rfl))) (fun _ _ _ _ _ => pts_nil) (fun _ _ _ _ _ => (kDy (P := P) (w := w) (K := K) (mg := mg) (base := base) ⟨rfl, rfl, rfl, rfl, rfl⟩ (k := 8) (m := "spread_at") (pv 2) (hr.mono (by decide)) (pa_cons (pv 3) pa_nil))))))), ?_⟩
  tm_at "go"
  refine ⟨r, n, rfl, fun a H1 s1 Sp => ?_⟩
  tm_at "go"
  refine gR1 (by omega) ?_
  rw [Int.toNat_natCast]
  intro D hD
  refine lcIt (wRange (m := n)) (fun i H' => Same H1 H' ∧ ∃ (ta : Nat → Addr) (ms : Nat → List Int), H' D = some (.lst (tab i fun j => .ref (ta j))) ∧ ∀ j, j < i → ta j ≠ D ∧ H' (ta j) = some (lI (ms j)) ∧ ∀ k, k ∈ ms j ↔ k ∈ spreadL r n (j : Int)) ⟨Same.new hD, fun _ => 0, fun _ => [], by rw [upd_same]; rfl, fun i hi => absurd hi (by omega)⟩ (fun _ _ _ _ => trivial) ?_ ?_
  · rintro i x H2 H3 hi ⟨s2, ta, ms, eD, hm⟩ ⟨rfl, rfl⟩
    tm_at "go"
    refine ⟨rfl, ?_⟩
    tm_at "go"
    obtain ⟨C, dx, f, e, cl, m, o⟩ := dy_spread S (P := P) (w := w) (base := base) (Sp.same s2)
    refine ⟨a, C, dx, fS n, f, _, rfl, e, rfl, cl, m, o, ?_⟩
    tm_at "go"
    refine ⟨a, n, i, rfl, Sp.same s2, hn, by omega, fun E ns H4 s4 nE _ hns eE => ?_⟩
    have ED : E ≠ D := (ne_of_none eD nE).symm
    refine ⟨_, s4 _ _ eD, by rw [tab_len]; exact line_lt (by omega), (s2.trans s4).mut hD, ext ta i E, fun j => if j = i then ns else ms j, ?_, fun j hj => ?_⟩
    · rw [upd_same, show tab i (fun j => V.ref (ta j)) = tab i fun j => V.ref (ext ta i E j) from tab_congr fun j hj => by rw [ext_lt hj], tab_push (by rw [ext_eq])]
    · by_cases q2 : j = i
      · subst q2
        rw [ext_eq, upd_ne ED]
        simp only [if_pos]
        exact ⟨ED, eE, hns⟩
      · obtain ⟨m1, m2, m3⟩ := hm j (by omega)
        rw [ext_lt (by omega), upd_ne m1]
        simp only [if_neg q2]
        exact ⟨m1, s4 _ _ m2, m3⟩
  · rintro H2 ⟨s2, ta, ms, eD, hm⟩
    exact q D _ (s1.trans s2) ⟨ta, ms, eD, fun i hi => (hm i hi).2⟩
theorem ok_back_tables (S : TX K mg) : OkF P w K mg base 11 (He.ga K "back_tables") (p_tables backL) := by
  refine okF (F_back_tables S) sc_back_tables (by tm_at "len") (fun _ _ _ _ _ _ us hl => match us, hl with | [_, _], _ => rfl) (fun cdv A outer s H vs Q E hr h => ?_)
  obtain ⟨r, n, rfl, hn, q⟩ := h
  refine ⟨_, (pss_cons (ps_set (i := 2) sc_back_tables.nd rfl (Or.inr rfl) (pe_f (ok_spread_by S) (hr.mono (by decide)) rfl (glo_spread_by S) (pa_cons (pv 0) (pa_cons (pv 1) pa_nil))))
    (pss_one (ps_ret (pe_lc (own := [("place", 3)]) (g := gName 3) (tt := tYes) rfl sc_back_tables.nd (pi_range1 rfl (fr_range S) (pa_cons (pv 1) pa_nil)) (blkOk_by (own := [("place", 3)]) (N := ["word", "size", "made", "place"]) (sc := defScope s_back_tables) (by decide +kernel)) (fun _ _ _ _ _ => (pg_name (i := 3) sc_back_tables.nd rfl (Or.inl rfl))) (fun _ _ _ _ _ => pts_nil) (fun _ _ _ _ _ => (kDy (P := P) (w := w) (K := K) (mg := mg) (base := base) ⟨rfl, rfl, rfl, rfl, rfl⟩ (k := 10) (m := "back_at") (pv 2) (hr.mono (by decide)) (pa_cons (pv 3) pa_nil))))))), ?_⟩
  tm_at "go"
  refine ⟨r, n, rfl, fun a H1 s1 Sp => ?_⟩
  tm_at "go"
  refine gR1 (by omega) ?_
  rw [Int.toNat_natCast]
  intro D hD
  refine lcIt (wRange (m := n)) (fun i H' => Same H1 H' ∧ ∃ (ta : Nat → Addr) (ms : Nat → List Int), H' D = some (.lst (tab i fun j => .ref (ta j))) ∧ ∀ j, j < i → ta j ≠ D ∧ H' (ta j) = some (lI (ms j)) ∧ ∀ k, k ∈ ms j ↔ k ∈ backL r n (j : Int)) ⟨Same.new hD, fun _ => 0, fun _ => [], by rw [upd_same]; rfl, fun i hi => absurd hi (by omega)⟩ (fun _ _ _ _ => trivial) ?_ ?_
  · rintro i x H2 H3 hi ⟨s2, ta, ms, eD, hm⟩ ⟨rfl, rfl⟩
    tm_at "go"
    refine ⟨rfl, ?_⟩
    tm_at "go"
    obtain ⟨C, dx, f, e, cl, m, o⟩ := dy_back S (P := P) (w := w) (base := base) (Sp.same s2)
    refine ⟨a, C, dx, fS n, f, _, rfl, e, rfl, cl, m, o, ?_⟩
    tm_at "go"
    refine ⟨a, n, i, rfl, Sp.same s2, hn, by omega, fun E ns H4 s4 nE _ hns eE => ?_⟩
    have ED : E ≠ D := (ne_of_none eD nE).symm
    refine ⟨_, s4 _ _ eD, by rw [tab_len]; exact line_lt (by omega), (s2.trans s4).mut hD, ext ta i E, fun j => if j = i then ns else ms j, ?_, fun j hj => ?_⟩
    · rw [upd_same, show tab i (fun j => V.ref (ta j)) = tab i fun j => V.ref (ext ta i E j) from tab_congr fun j hj => by rw [ext_lt hj], tab_push (by rw [ext_eq])]
    · by_cases q2 : j = i
      · subst q2
        rw [ext_eq, upd_ne ED]
        simp only [if_pos]
        exact ⟨ED, eE, hns⟩
      · obtain ⟨m1, m2, m3⟩ := hm j (by omega)
        rw [ext_lt (by omega), upd_ne m1]
        simp only [if_neg q2]
        exact ⟨m1, s4 _ _ m2, m3⟩
  · rintro H2 ⟨s2, ta, ms, eD, hm⟩
    exact q D _ (s1.trans s2) ⟨ta, ms, eD, fun i hi => (hm i hi).2⟩
def p_need_place : Pm := fun vs H Q => ∃ (c t : Addr) (cc q : Nat × Nat), vs = [.ref c, .ref t] ∧ H c = some (cT cc) ∧ H t = some (cT q) ∧ q.1 < cc.1 ∧ q.2 < cc.2 ∧ Q .non H
theorem ok_need_place (S : TX K mg) : OkF P w K mg base 2 (He.ga K "need_place") (p_need_place) := by
  refine okF (F_need_place S) sc_need_place (by tm_at "len") (fun _ _ _ _ _ _ us hl => match us, hl with | [_, _], _ => rfl) (fun cdv A outer s H vs Q E hr h => ?_)
  obtain ⟨c, t, cc, qq, rfl, hc, ht, h1, h2, q⟩ := h
  refine ⟨_, (pss_cons (ps_if (PW.pt (pw_or (pt_not (pt_val (pe_callB (kIsi (K := K) rfl) rfl (fr_isinstance S) bt_isinstance (pa_cons (pv 1) (pa_cons (pe_bltn (v := .ty "tuple") rfl (fr_tuple S) bt_tuple rfl) pa_nil))))) (pw_or1 (pt_cmpR op_ne (pe_callB (kLen (K := K) rfl) rfl (fr_len S) bt_len (pa_cons (pv 1) pa_nil)) pe_int (nomark _))))) (pss_one ps_never) pss_nil)
    (pss_one (ps_if (PW.pt (pw_or (pt_not (pt_val (pe_f (ok_is_whole S) (hr.mono (by decide)) rfl (glo_is_whole S) (pa_cons (pe_ix (kIxT (K := K) rfl) (pv 1) pe_int (fun _ _ => rfl)) (pa_cons pe_int (pa_cons (pe_op op_sub (pe_ix (kIxT (K := K) rfl) (pv 0) pe_int (fun _ _ => rfl)) pe_int) pa_nil)))))) (pw_or1 (pt_not (pt_val (pe_f (ok_is_whole S) (hr.mono (by decide)) rfl (glo_is_whole S) (pa_cons (pe_ix (kIxT (K := K) rfl) (pv 1) pe_int (fun _ _ => rfl)) (pa_cons pe_int (pa_cons (pe_op op_sub (pe_ix (kIxT (K := K) rfl) (pv 0) pe_int (fun _ _ => rfl)) pe_int) pa_nil))))))))) (pss_one ps_never) pss_nil))), ?_⟩
  tm_at "go"
  refine ⟨_, 2, rfl, .inr ⟨_, SqT.of ht, rfl⟩, ?_⟩
  tm_at "go"
  refine gIxT (SqT.of ht) (i := 0) rfl ?_
  tm_at "go"
  refine gIxT (SqT.of hc) (i := 0) rfl ?_
  tm_at "go"
  refine ⟨_, _, _, rfl, by omega, by omega, ?_⟩
  tm_at "go"
  refine gIxT (SqT.of ht) (i := 1) rfl ?_
  tm_at "go"
  refine gIxT (SqT.of hc) (i := 1) rfl ?_
  tm_at "go"
  refine ⟨_, _, _, rfl, by omega, by omega, ?_⟩
  tm_at "go"
  exact q
/-- a dict of places -/
def pk (q : Nat × Nat) : LK := [.inl (q.1 : Int), .inl (q.2 : Int)]
def plK (R : List (Nat × Nat)) : List (LK × V) := R.map fun q => (pk q, .bl true)
theorem pk_inj {a b : Nat × Nat} (h : pk a = pk b) : a = b := by
  unfold pk at h
  injection h with h1 h2
  injection h2 with h2 _
  injection h1 with h1
  injection h2 with h2
  exact Prod.ext (by omega) (by omega)
theorem plK_put {R : List (Nat × Nat)} {q : Nat × Nat} : putK (plK R) (pk q) (.bl true) = if q ∈ R then plK R else plK (R ++ [q]) := by
  have h : ((plK R).any fun kv => decide (kv.1 = pk q)) = decide (q ∈ R) := by
    unfold plK
    rw [List.any_map]
    by_cases e : q ∈ R
    · rw [decide_eq_true e, List.any_eq_true]
      exact ⟨q, e, decide_eq_true rfl⟩
    · rw [decide_eq_false e, List.any_eq_false]
      intro x hx z
      exact e (by rw [← pk_inj (of_decide_eq_true z)]; exact hx)
  unfold putK
  rw [h]
  by_cases e : q ∈ R
  · rw [if_pos (decide_eq_true e), if_pos e]
    unfold plK
    rw [List.map_map]
    exact List.map_congr_left fun x _ => by
      show (if pk x = pk q then (pk x, V.bl true) else (pk x, V.bl true)) = (pk x, V.bl true)
      split <;> rfl
  · rw [if_neg (by rw [decide_eq_false e]; exact Bool.false_ne_true), if_neg e]
    unfold plK
    rw [List.map_append]
    rfl
def DictP (H : Hp) (D : Addr) (A : Nat × Nat → Prop) : Prop := ∃ R : List (Nat × Nat), R.Nodup ∧ (∀ q, q ∈ R ↔ A q) ∧ H D = some (.dT (plK R))
theorem DictP.same {H H' : Hp} {D : Addr} {A : Nat × Nat → Prop} (d : DictP H D A) (s : Same H H') : DictP H' D A := let ⟨R, n, m, e⟩ := d; ⟨R, n, m, s _ _ e⟩
theorem DictP.congr {H : Hp} {D : Addr} {A B : Nat × Nat → Prop} (d : DictP H D A) (h : ∀ q, A q ↔ B q) : DictP H D B := let ⟨R, n, m, e⟩ := d; ⟨R, n, fun q => (m q).trans (h q), e⟩
theorem plK_len {R : List (Nat × Nat)} : (plK R).length = R.length := List.length_map _
/-- D[q] = True -/
theorem DictP.put {H : Hp} {D t : Addr} {A : Nat × Nat → Prop} {q : Nat × Nat} {Q : Hp → Prop} (d : DictP H D A) (ht : H t = some (cT q)) (hb : ∀ x, A x → x.1 < 64 ∧ x.2 < 64) (h : ∀ H', DictP H' D (fun x => A x ∨ x = q) → (∀ b, b ≠ D → H' b = H b) → Q H') : rSetD (.ref D) (.ref t) (.bl true) H Q := by
  obtain ⟨R, n, m, e⟩ := d
  have hl := grid_len n fun x hx => hb x ((m x).mp hx)
  refine ⟨D, _, rfl, DPut.t e (k := pk q) ht (by rw [plK_len]; exact line_lt (by omega)), h _ ?_ fun b nb => by rw [upd_ne nb]⟩
  rw [plK_put]
  by_cases z : q ∈ R
  · rw [if_pos z]
    refine ⟨R, n, fun x => ⟨fun hx => .inl ((m x).mp hx), fun hx => ?_⟩, upd_same⟩
    rcases hx with hx | hx
    · exact (m x).mpr hx
    · rw [hx]; exact z
  · rw [if_neg z]
    refine ⟨R ++ [q], List.nodup_append.mpr ⟨n, List.nodup_cons.mpr ⟨List.not_mem_nil, List.nodup_nil⟩, fun a ha b hb2 e2 => ?_⟩, fun x => ?_, upd_same⟩
    · rw [List.mem_singleton] at hb2
      exact z (by rw [← hb2, ← e2]; exact ha)
    · rw [List.mem_append, List.mem_singleton, m]
def p_in (rel : (Int → List Int) → Nat × Nat → Nat × Nat → Nat × Nat → Prop) (sel : Nat × Nat → Nat) : Pm := fun vs H Q => ∃ (d c tb : Addr) (A : Nat × Nat → Prop) (cc : Nat × Nat) (L : Int → List Int), vs = [.ref d, .ref c, .ref tb] ∧ DictP H d A ∧ (∀ q, A q → q.1 < 64 ∧ q.2 < 64) ∧ H c = some (cT cc) ∧ TabAt H tb (sel cc) L ∧ (∀ i k, i < sel cc → k ∈ L (i : Int) → 0 ≤ k ∧ k < 64) ∧
  ∀ D H', Same H H' → H D = none → DictP H' D (fun q => ∃ p, A p ∧ rel L cc p q) → Q (.ref D) H'
theorem gLock {t : TS} {D : Ends} {σ : St} {H : Hp} {d : Addr} {u : HO} (hd : H d = some u) (mu : Mut (some u)) (h : ∀ od, t ⟨fun σ' H' => H' d = some (.frz od u) ∧ D.nx σ' (upd H' d u), fun v H' => H' d = some (.frz od u) ∧ D.rt v (upd H' d u), fun σ' H' => H' d = some (.frz od u) ∧ D.bk σ' (upd H' d u), fun σ' H' => H' d = some (.frz od u) ∧ D.ct σ' (upd H' d u)⟩ σ (upd H d (.frz od u))) : tLock t D σ H := ⟨d, u, hd, mu, h⟩
theorem gIKs {td : TE} {σ : St} {H : Hp} {R : It → Hp → Prop} (h : td σ H fun x H1 => ∃ d o, x = .ref d ∧ ((∃ kvs, H1 d = some (.frz o (.dK kvs)) ∧ R (Itk d o kvs) H1) ∨ ∃ kvs, H1 d = some (.frz o (.dT kvs)) ∧ R (Itkt d o kvs) H1)) : iKeys td σ H R := h
/-- the keys of a locked dict of places, one after another -/
theorem wPl {d : Addr} {o : Obj} {R : List (Nat × Nat)} : Walk (Itkt d o (plK R)) R.length (fun H => H d = some (.frz o (.dT (plK R)))) (fun i H x H' => H' = H ∧ ∃ q t, R[i]? = some q ∧ x = .ref t ∧ H t = some (cT q)) := by
  have w := walk_keysT (d := d) (o := o) (kvs := plK R)
  rw [plK_len] at w
  refine w.mono (fun _ h => h) fun i H x H' hi _ y => ⟨y.1, ?_⟩
  obtain ⟨k, v, t, e1, e2, e3⟩ := y.2
  unfold plK at e1
  rw [List.getElem?_map] at e1
  obtain ⟨q, eq, e⟩ := Option.map_eq_some_iff.mp e1
  cases e
  exact ⟨q, t, eq, e2, e3⟩
/-- the walk so far -/
def SoFar (rel : Nat × Nat → Nat × Nat → Prop) (R : List (Nat × Nat)) (i : Nat) (q : Nat × Nat) : Prop := ∃ p ∈ R.take i, rel p q
theorem SoFar.succ {rel : Nat × Nat → Nat × Nat → Prop} {R : List (Nat × Nat)} {i : Nat} {p q : Nat × Nat} (h : R[i]? = some p) : SoFar rel R (i + 1) q ↔ SoFar rel R i q ∨ rel p q := by
  unfold SoFar
  rw [take_snoc h]
  constructor
  · rintro ⟨p2, h1, h2⟩
    rcases List.mem_append.mp h1 with h1 | h1
    · exact .inl ⟨p2, h1, h2⟩
    · rw [List.mem_singleton] at h1
      subst h1
      exact .inr h2
  · rintro (⟨p2, h1, h2⟩ | h2)
    · exact ⟨p2, List.mem_append_left _ h1, h2⟩
    · exact ⟨p, List.mem_append_right _ (List.mem_singleton.mpr rfl), h2⟩
theorem take_mem {α : Type} {l : List α} {i : Nat} {k x : α} (h : l[i]? = some k) : x ∈ l.take (i + 1) ↔ x ∈ l.take i ∨ x = k := by
  rw [take_snoc h, List.mem_append, List.mem_singleton]
theorem rel_bound {L : Int → List Int} {n : Nat} {cc p q : Nat × Nat} (hp : p.1 < 64 ∧ p.2 < 64) (hL : ∀ (i : Nat) (k : Int), i < n → k ∈ L (i : Int) → 0 ≤ k ∧ k < 64) : (n = cc.2 → relR L cc p q → q.1 < 64 ∧ q.2 < 64) ∧ (n = cc.1 → relP L cc p q → q.1 < 64 ∧ q.2 < 64) := by
  refine ⟨fun e h => ?_, fun e h => ?_⟩
  · rcases h with ⟨h1, h2, h3, h4⟩ | ⟨_, h⟩
    · have := hL p.2 _ (by omega) h4
      omega
    · rw [h]; exact hp
  · rcases h with ⟨h1, h2, h3, h4⟩ | ⟨_, h⟩
    · have := hL p.1 _ (by omega) h4
      omega
    · rw [h]; exact hp
theorem ok_in_rows (S : TX K mg) : OkF P w K mg base 1 (He.ga K "in_rows") (p_in relR (·.2)) := by
  refine okF (F_in_rows S) sc_in_rows (by tm_at "len") (fun _ _ _ _ _ _ us hl => match us, hl with | [_, _, _], _ => rfl) (fun cdv A outer s H vs Q E hr h => ?_)
  obtain ⟨d, c, tb, A, cc, L, rfl, ⟨R, nR, mR, eR⟩, hA, hc, ⟨ta, ms, etb, hms⟩, hL, q⟩ := h
  refine ⟨_, (pss_cons (ps_set (i := 3) sc_in_rows.nd rfl (Or.inl rfl) pe_dnewT)
    (pss_cons (ps_lock (ps_for PassesOwn.never rfl (pi_keys (pv 0)) (kPTup (K := K) (n := 2) rfl rfl (pgs_cons (pg_name (i := 4) sc_in_rows.nd rfl (Or.inl rfl)) (pgs_cons (pg_name (i := 5) sc_in_rows.nd rfl (Or.inl rfl)) pgs_nil))) (pss_one (ps_if (PW.pt (pw_and (pt_cmpR op_lt (pv 4) (pe_ix (kIxT (K := K) rfl) (pv 1) pe_int (fun _ _ => rfl)) (nomark _)) (pw_and1 (pt_cmpR op_lt (pv 5) (pe_ix (kIxT (K := K) rfl) (pv 1) pe_int (fun _ _ => rfl)) (nomark _))))) (pss_one (ps_for PassesOwn.never rfl (kList (K := K) rfl (pe_ix (kIxL (K := K) rfl) (pv 2) (pv 5) (fun _ _ => rfl))) (pg_name (i := 6) sc_in_rows.nd rfl (Or.inl rfl)) (pss_one (ps_asg pe_bl (pg_sub (pv 3) (pe_tup (pa_cons (pv 4) (pa_cons (pv 6) pa_nil))) (set_dict (ru1 hr.units))))))) (pss_one (ps_asg pe_bl (pg_sub (pv 3) (pe_tup (pa_cons (pv 4) (pa_cons (pv 5) pa_nil))) (set_dict (ru1 hr.units)))))))))
    (pss_one (ps_ret (pv 3))))), ?_⟩
  dsimp only at etb hms hL
  have bR : ∀ p ∈ R, p.1 < 64 ∧ p.2 < 64 := fun p hp => hA p ((mR p).mp hp)
  have lR := grid_len nR bR
  tm_at "go"
  intro D hD
  generalize hg : upd _ _ _ = H1
  obtain ⟨s1, eD⟩ := newF hg hD
  have Dd : D ≠ d := fun e => by rw [e, eR] at hD; cases hD
  have cd : c ≠ d := fun e => by rw [e, eR] at hc; cases hc
  have td : tb ≠ d := fun e => by rw [e, eR] at etb; cases etb
  have tad : ∀ i, i < cc.2 → ta i ≠ d := fun i hi e => by have := (hms i hi).1; rw [e, eR] at this; cases this
  have tD : ∀ i, i < cc.2 → ta i ≠ D := fun i hi => ne_of_none (hms i hi).1 hD
  have bnd : ∀ i q, SoFar (relR L cc) R i q → q.1 < 64 ∧ q.2 < 64 := fun i q ⟨p, hp, h⟩ => (rel_bound (bR p (List.mem_of_mem_take hp)) hL).1 rfl h
  tm_at "go"
  refine gLock (s1 _ _ eR) trivial fun od => ?_
  refine gFor ?_
  refine gIKs ?_
  tm_at "go"
  refine ⟨d, od, rfl, .inr ⟨plK R, upd_same, ?_⟩⟩
  refine forIt (wPl (R := R)) (fun i σ H' => H' d = some (.frz od (.dT (plK R))) ∧ (∀ b o, b ≠ d → H b = some o → H' b = some o) ∧ DictP H' D (SoFar (relR L cc) R i) ∧ ∃ v1 v2 v3, σ = [some (.ref d), some (.ref c), some (.ref tb), some (.ref D), v1, v2, v3])
    ⟨upd_same, fun b o nb e => by rw [upd_ne nb]; exact s1 _ _ e, ⟨[], List.nodup_nil, fun q => ⟨fun h => (by cases h), fun ⟨p, hp, _⟩ => (by cases hp)⟩, by rw [upd_ne Dd]; exact eD⟩, none, none, none, rfl⟩ (fun i σ H' _ z => z.1) ?_ ?_
  · rintro i x σ H2 H3 hi ⟨ed, kp, dp, v1, v2, v3, rfl⟩ ⟨rfl, p, t, hp, rfl, et⟩
    refine gTp (SqT.of et) rfl ?_
    tm_at "go"
    refine gIxT (SqT.of (kp _ _ cd hc)) (i := 0) rfl ?_
    tm_at "go"
    have none_ : ¬ (p.1 < cc.1 ∧ p.2 < cc.2) → ∀ H4, DictP H4 D (fun x => SoFar (relR L cc) R i x ∨ x = (p.1, p.2)) → DictP H4 D (SoFar (relR L cc) R (i + 1)) := fun hn H4 dp => dp.congr fun x => by
      rw [SoFar.succ hp]
      refine or_congr Iff.rfl ⟨fun e => .inr ⟨hn, e⟩, fun e => ?_⟩
      rcases e with ⟨a1, a2, _⟩ | ⟨_, e⟩
      · exact absurd ⟨a1, a2⟩ hn
      · exact e
    by_cases h1 : p.1 < cc.1
    · refine gIfT (decide_eq_true (by omega)) ?_
      tm_at "go"
      refine gIxT (SqT.of (kp _ _ cd hc)) (i := 1) rfl ?_
      tm_at "go"
      by_cases h2 : p.2 < cc.2
      · refine gIfT (decide_eq_true (by omega)) ?_
        tm_at "go"
        have hx : p.2 < cc.2 := by omega
        refine gIxL (SqL.of (kp _ _ td etb)) (at_tab hx) ?_
        refine gL1 (SqL.of (kp _ _ (tad _ hx) (hms _ hx).1)) ?_
        refine forIt (wInts (xs := ms p.2)) (fun j σ H' => H' d = some (.frz od (.dT (plK R))) ∧ (∀ b o, b ≠ d → H b = some o → H' b = some o) ∧ DictP H' D (fun q => SoFar (relR L cc) R i q ∨ (q.1 = p.1 ∧ (q.2 : Int) ∈ (ms p.2).take j)) ∧ ∃ v3, σ = [some (.ref d), some (.ref c), some (.ref tb), some (.ref D), some (.int p.1), some (.int p.2), v3])
          ⟨ed, kp, dp.congr fun q => ⟨.inl, fun h => h.elim id fun z => (by cases z.2)⟩, v3, rfl⟩ (fun j σ H' _ z => SqL.of (z.2.1 _ _ (tad _ hx) (hms _ hx).1)) ?_ ?_
        · rintro j x σ H4 H5 hj ⟨ed, kp, dp, v3, rfl⟩ ⟨rfl, k, hk, rfl⟩
          have kb := hL _ k hx (((hms _ hx).2 k).mp (List.mem_of_getElem? hk))
          tm_at "go"
          refine ⟨szL rfl, fun u hu => ?_⟩
          generalize hg6 : upd _ _ _ = H6
          obtain ⟨s6, eu⟩ := newF hg6 hu
          obtain ⟨kn, rfl⟩ := Int.eq_ofNat_of_zero_le kb.1
          refine DictP.put (q := (p.1,kn)) (dp.same s6) eu (fun q hq => ?_) fun H7 dp7 k7 => ?_
          · rcases hq with hq | ⟨e1, e2⟩
            · exact bnd i q hq
            · have e3 := List.mem_of_mem_take e2
              have := hL _ _ hx (((hms _ hx).2 _).mp e3)
              have := bR p (List.mem_of_getElem? hp)
              omega
          · refine ⟨by rw [k7 d Dd.symm]; exact s6 _ _ ed, fun b o nb e => by rw [k7 b (ne_of_none e hD)]; exact s6 _ _ (kp b o nb e), dp7.congr fun q => ?_, _, rfl⟩
            rw [take_mem hk, or_assoc]
            refine or_congr Iff.rfl ⟨fun e => ?_, fun e => ?_⟩
            · rcases e with e | e
              · exact ⟨e.1, .inl e.2⟩
              · rw [e]; exact ⟨rfl, .inr rfl⟩
            · obtain ⟨a1, a2 | a2⟩ := e
              · exact .inl ⟨a1, a2⟩
              · exact .inr (by
                  have a3 : q.2 = kn := by omega
                  exact Prod.ext (by first | exact a1 | exact a3) (by first | exact a3 | exact a1))
        · rintro σ H4 ⟨ed, kp, dp, v3, rfl⟩
          rw [List.take_length] at dp
          refine ⟨ed, kp, dp.congr fun q => ?_, _, _, _, rfl⟩
          rw [SoFar.succ hp]
          refine or_congr Iff.rfl ⟨fun e => .inl ⟨h1, h2, e.1, ((hms _ hx).2 _).mp e.2⟩, fun e => ?_⟩
          rcases e with ⟨_, _, a3, a4⟩ | ⟨a1, _⟩
          · exact ⟨a3, ((hms _ hx).2 _).mpr a4⟩
          · exact absurd ⟨h1, h2⟩ a1
      · refine gIfF (decide_eq_false (by omega)) ?_
        tm_at "go"
        refine ⟨szL rfl, fun u hu => ?_⟩
        generalize hg6 : upd _ _ _ = H6
        obtain ⟨s6, eu⟩ := newF hg6 hu
        refine DictP.put (q := (p.1, p.2)) (dp.same s6) eu (fun q hq => bnd i q hq) fun H7 dp7 k7 => ?_
        exact ⟨by rw [k7 d Dd.symm]; exact s6 _ _ ed, fun b o nb e => by rw [k7 b (ne_of_none e hD)]; exact s6 _ _ (kp b o nb e), none_ (fun z => h2 z.2) _ dp7, _, _, _, rfl⟩
    · refine gIfF (decide_eq_false (by omega)) ?_
      tm_at "go"
      refine ⟨szL rfl, fun u hu => ?_⟩
      generalize hg6 : upd _ _ _ = H6
      obtain ⟨s6, eu⟩ := newF hg6 hu
      refine DictP.put (q := (p.1, p.2)) (dp.same s6) eu (fun q hq => bnd i q hq) fun H7 dp7 k7 => ?_
      exact ⟨by rw [k7 d Dd.symm]; exact s6 _ _ ed, fun b o nb e => by rw [k7 b (ne_of_none e hD)]; exact s6 _ _ (kp b o nb e), none_ (fun z => h1 z.1) _ dp7, _, _, _, rfl⟩
  · rintro σ H2 ⟨ed, kp, dp, v1, v2, v3, rfl⟩
    refine ⟨ed, ?_⟩
    tm_at "go"
    refine q D _ (fun b o e => ?_) hD ?_
    · by_cases z : b = d
      · rw [z, upd_same]; rw [z, eR] at e; exact e
      · rw [upd_ne z]; exact kp b o z e
    · obtain ⟨R2, n2, m2, e2⟩ := dp
      refine ⟨R2, n2, fun x => ?_, by rw [upd_ne Dd]; exact e2⟩
      rw [m2]
      unfold SoFar
      rw [List.take_length]
      exact ⟨fun ⟨p, hp, h⟩ => ⟨p, (mR p).mp hp, h⟩, fun ⟨p, hp, h⟩ => ⟨p, (mR p).mpr hp, h⟩⟩
theorem ok_in_pillars (S : TX K mg) : OkF P w K mg base 1 (He.ga K "in_pillars") (p_in relP (·.1)) := by
  refine okF (F_in_pillars S) sc_in_pillars (by tm_at "len") (fun _ _ _ _ _ _ us hl => match us, hl with | [_, _, _], _ => rfl) (fun cdv A outer s H vs Q E hr h => ?_)
  obtain ⟨d, c, tb, A, cc, L, rfl, ⟨R, nR, mR, eR⟩, hA, hc, ⟨ta, ms, etb, hms⟩, hL, q⟩ := h
  refine ⟨_, (pss_cons (ps_set (i := 3) sc_in_pillars.nd rfl (Or.inl rfl) pe_dnewT)
    (pss_cons (ps_lock (ps_for PassesOwn.never rfl (pi_keys (pv 0)) (kPTup (K := K) (n := 2) rfl rfl (pgs_cons (pg_name (i := 4) sc_in_pillars.nd rfl (Or.inl rfl)) (pgs_cons (pg_name (i := 5) sc_in_pillars.nd rfl (Or.inl rfl)) pgs_nil))) (pss_one (ps_if (PW.pt (pw_and (pt_cmpR op_lt (pv 4) (pe_ix (kIxT (K := K) rfl) (pv 1) pe_int (fun _ _ => rfl)) (nomark _)) (pw_and1 (pt_cmpR op_lt (pv 5) (pe_ix (kIxT (K := K) rfl) (pv 1) pe_int (fun _ _ => rfl)) (nomark _))))) (pss_one (ps_for PassesOwn.never rfl (kList (K := K) rfl (pe_ix (kIxL (K := K) rfl) (pv 2) (pv 4) (fun _ _ => rfl))) (pg_name (i := 6) sc_in_pillars.nd rfl (Or.inl rfl)) (pss_one (ps_asg pe_bl (pg_sub (pv 3) (pe_tup (pa_cons (pv 6) (pa_cons (pv 5) pa_nil))) (set_dict (ru1 hr.units))))))) (pss_one (ps_asg pe_bl (pg_sub (pv 3) (pe_tup (pa_cons (pv 4) (pa_cons (pv 5) pa_nil))) (set_dict (ru1 hr.units)))))))))
    (pss_one (ps_ret (pv 3))))), ?_⟩
  dsimp only at etb hms hL
  have bR : ∀ p ∈ R, p.1 < 64 ∧ p.2 < 64 := fun p hp => hA p ((mR p).mp hp)
  have lR := grid_len nR bR
  tm_at "go"
  intro D hD
  generalize hg : upd _ _ _ = H1
  obtain ⟨s1, eD⟩ := newF hg hD
  have Dd : D ≠ d := fun e => by rw [e, eR] at hD; cases hD
  have cd : c ≠ d := fun e => by rw [e, eR] at hc; cases hc
  have td : tb ≠ d := fun e => by rw [e, eR] at etb; cases etb
  have tad : ∀ i, i < cc.1 → ta i ≠ d := fun i hi e => by have := (hms i hi).1; rw [e, eR] at this; cases this
  have tD : ∀ i, i < cc.1 → ta i ≠ D := fun i hi => ne_of_none (hms i hi).1 hD
  have bnd : ∀ i q, SoFar (relP L cc) R i q → q.1 < 64 ∧ q.2 < 64 := fun i q ⟨p, hp, h⟩ => (rel_bound (bR p (List.mem_of_mem_take hp)) hL).2 rfl h
  tm_at "go"
  refine gLock (s1 _ _ eR) trivial fun od => ?_
  refine gFor ?_
  refine gIKs ?_
  tm_at "go"
  refine ⟨d, od, rfl, .inr ⟨plK R, upd_same, ?_⟩⟩
  refine forIt (wPl (R := R)) (fun i σ H' => H' d = some (.frz od (.dT (plK R))) ∧ (∀ b o, b ≠ d → H b = some o → H' b = some o) ∧ DictP H' D (SoFar (relP L cc) R i) ∧ ∃ v1 v2 v3, σ = [some (.ref d), some (.ref c), some (.ref tb), some (.ref D), v1, v2, v3])
    ⟨upd_same, fun b o nb e => by rw [upd_ne nb]; exact s1 _ _ e, ⟨[], List.nodup_nil, fun q => ⟨fun h => (by cases h), fun ⟨p, hp, _⟩ => (by cases hp)⟩, by rw [upd_ne Dd]; exact eD⟩, none, none, none, rfl⟩ (fun i σ H' _ z => z.1) ?_ ?_
  · rintro i x σ H2 H3 hi ⟨ed, kp, dp, v1, v2, v3, rfl⟩ ⟨rfl, p, t, hp, rfl, et⟩
    refine gTp (SqT.of et) rfl ?_
    tm_at "go"
    refine gIxT (SqT.of (kp _ _ cd hc)) (i := 0) rfl ?_
    tm_at "go"
    have none_ : ¬ (p.1 < cc.1 ∧ p.2 < cc.2) → ∀ H4, DictP H4 D (fun x => SoFar (relP L cc) R i x ∨ x = (p.1, p.2)) → DictP H4 D (SoFar (relP L cc) R (i + 1)) := fun hn H4 dp => dp.congr fun x => by
      rw [SoFar.succ hp]
      refine or_congr Iff.rfl ⟨fun e => .inr ⟨hn, e⟩, fun e => ?_⟩
      rcases e with ⟨a1, a2, _⟩ | ⟨_, e⟩
      · exact absurd ⟨a1, a2⟩ hn
      · exact e
    by_cases h1 : p.1 < cc.1
    · refine gIfT (decide_eq_true (by omega)) ?_
      tm_at "go"
      refine gIxT (SqT.of (kp _ _ cd hc)) (i := 1) rfl ?_
      tm_at "go"
      by_cases h2 : p.2 < cc.2
      · refine gIfT (decide_eq_true (by omega)) ?_
        tm_at "go"
        have hx : p.1 < cc.1 := by omega
        refine gIxL (SqL.of (kp _ _ td etb)) (at_tab hx) ?_
        refine gL1 (SqL.of (kp _ _ (tad _ hx) (hms _ hx).1)) ?_
        refine forIt (wInts (xs := ms p.1)) (fun j σ H' => H' d = some (.frz od (.dT (plK R))) ∧ (∀ b o, b ≠ d → H b = some o → H' b = some o) ∧ DictP H' D (fun q => SoFar (relP L cc) R i q ∨ (q.2 = p.2 ∧ (q.1 : Int) ∈ (ms p.1).take j)) ∧ ∃ v3, σ = [some (.ref d), some (.ref c), some (.ref tb), some (.ref D), some (.int p.1), some (.int p.2), v3])
          ⟨ed, kp, dp.congr fun q => ⟨.inl, fun h => h.elim id fun z => (by cases z.2)⟩, v3, rfl⟩ (fun j σ H' _ z => SqL.of (z.2.1 _ _ (tad _ hx) (hms _ hx).1)) ?_ ?_
        · rintro j x σ H4 H5 hj ⟨ed, kp, dp, v3, rfl⟩ ⟨rfl, k, hk, rfl⟩
          have kb := hL _ k hx (((hms _ hx).2 k).mp (List.mem_of_getElem? hk))
          tm_at "go"
          refine ⟨szL rfl, fun u hu => ?_⟩
          generalize hg6 : upd _ _ _ = H6
          obtain ⟨s6, eu⟩ := newF hg6 hu
          obtain ⟨kn, rfl⟩ := Int.eq_ofNat_of_zero_le kb.1
          refine DictP.put (q := (kn,p.2)) (dp.same s6) eu (fun q hq => ?_) fun H7 dp7 k7 => ?_
          · rcases hq with hq | ⟨e1, e2⟩
            · exact bnd i q hq
            · have e3 := List.mem_of_mem_take e2
              have := hL _ _ hx (((hms _ hx).2 _).mp e3)
              have := bR p (List.mem_of_getElem? hp)
              omega
          · refine ⟨by rw [k7 d Dd.symm]; exact s6 _ _ ed, fun b o nb e => by rw [k7 b (ne_of_none e hD)]; exact s6 _ _ (kp b o nb e), dp7.congr fun q => ?_, _, rfl⟩
            rw [take_mem hk, or_assoc]
            refine or_congr Iff.rfl ⟨fun e => ?_, fun e => ?_⟩
            · rcases e with e | e
              · exact ⟨e.1, .inl e.2⟩
              · rw [e]; exact ⟨rfl, .inr rfl⟩
            · obtain ⟨a1, a2 | a2⟩ := e
              · exact .inl ⟨a1, a2⟩
              · exact .inr (by
                  have a3 : q.1 = kn := by omega
                  exact Prod.ext (by first | exact a1 | exact a3) (by first | exact a3 | exact a1))
        · rintro σ H4 ⟨ed, kp, dp, v3, rfl⟩
          rw [List.take_length] at dp
          refine ⟨ed, kp, dp.congr fun q => ?_, _, _, _, rfl⟩
          rw [SoFar.succ hp]
          refine or_congr Iff.rfl ⟨fun e => .inl ⟨h1, h2, e.1, ((hms _ hx).2 _).mp e.2⟩, fun e => ?_⟩
          rcases e with ⟨_, _, a3, a4⟩ | ⟨a1, _⟩
          · exact ⟨a3, ((hms _ hx).2 _).mpr a4⟩
          · exact absurd ⟨h1, h2⟩ a1
      · refine gIfF (decide_eq_false (by omega)) ?_
        tm_at "go"
        refine ⟨szL rfl, fun u hu => ?_⟩
        generalize hg6 : upd _ _ _ = H6
        obtain ⟨s6, eu⟩ := newF hg6 hu
        refine DictP.put (q := (p.1, p.2)) (dp.same s6) eu (fun q hq => bnd i q hq) fun H7 dp7 k7 => ?_
        exact ⟨by rw [k7 d Dd.symm]; exact s6 _ _ ed, fun b o nb e => by rw [k7 b (ne_of_none e hD)]; exact s6 _ _ (kp b o nb e), none_ (fun z => h2 z.2) _ dp7, _, _, _, rfl⟩
    · refine gIfF (decide_eq_false (by omega)) ?_
      tm_at "go"
      refine ⟨szL rfl, fun u hu => ?_⟩
      generalize hg6 : upd _ _ _ = H6
      obtain ⟨s6, eu⟩ := newF hg6 hu
      refine DictP.put (q := (p.1, p.2)) (dp.same s6) eu (fun q hq => bnd i q hq) fun H7 dp7 k7 => ?_
      exact ⟨by rw [k7 d Dd.symm]; exact s6 _ _ ed, fun b o nb e => by rw [k7 b (ne_of_none e hD)]; exact s6 _ _ (kp b o nb e), none_ (fun z => h1 z.1) _ dp7, _, _, _, rfl⟩
  · rintro σ H2 ⟨ed, kp, dp, v1, v2, v3, rfl⟩
    refine ⟨ed, ?_⟩
    tm_at "go"
    refine q D _ (fun b o e => ?_) hD ?_
    · by_cases z : b = d
      · rw [z, upd_same]; rw [z, eR] at e; exact e
      · rw [upd_ne z]; exact kp b o z e
    · obtain ⟨R2, n2, m2, e2⟩ := dp
      refine ⟨R2, n2, fun x => ?_, by rw [upd_ne Dd]; exact e2⟩
      rw [m2]
      unfold SoFar
      rw [List.take_length]
      exact ⟨fun ⟨p, hp, h⟩ => ⟨p, (mR p).mp hp, h⟩, fun ⟨p, hp, h⟩ => ⟨p, (mR p).mpr hp, h⟩⟩
def p_places (K : PySem.W.Frag) (F : Rl → Nat × Nat → List L → PS → PS) : Pm := fun vs H Q => ∃ (p t : Addr) (h w : Nat) (r : Rl) (ws : List L) (q : Nat × Nat), vs = [.ref p, .ref t] ∧ PlanAt K H p h w r ws ∧ H t = some (cT q) ∧ (q.1 < h ∧ q.2 < w) ∧
  ∀ D H' ta (pls : List (Nat × Nat)), Same H H' → H D = none → pls.Nodup → (∀ x, x ∈ pls ↔ F r (h, w) ws (· = q) x) → LOf H' D ta pls cT → Q (.ref D) H'
def p_needs_behind (K : PySem.W.Frag) : Pm := fun vs H Q => ∃ (p a : Addr) (h w : Nat) (r : Rl) (ws : List L) (tq : Nat → Addr) (qs : List (Nat × Nat)), vs = [.ref p, .int 0, .ref a] ∧ PlanAt K H p h w r ws ∧ LOf H a tq qs cT ∧ (∀ q ∈ qs, q.1 < h ∧ q.2 < w) ∧ qs.length ≤ 4096 ∧
  ∀ D H' ta (pls : List (Nat × Nat)), Same H H' → H D = none → pls.Nodup → (∀ x, x ∈ pls ↔ needM r (h, w) ws (· ∈ qs) x) → LOf H' D ta pls cT → Q (.ref D) H'
/-- the place told by the tuple at v -/
def plOf (H : Hp) : V → Nat × Nat
  | .ref t => match H t with
    | some (.tup [.int i, .int j]) => (i.toNat, j.toNat)
    | _ => (0, 0)
  | _ => (0, 0)
def plI (H : Hp) (v : V) : Int × Int := ((plOf H v).1, (plOf H v).2)
theorem plOf_at {H : Hp} {t : Addr} {q : Nat × Nat} (h : H t = some (cT q)) : plOf H (.ref t) = q := by
  have e : H t = some (.tup [.int (q.1 : Int), .int (q.2 : Int)]) := h
  unfold plOf
  simp only [e]
  exact Prod.ext (Int.toNat_natCast _) (Int.toNat_natCast _)
theorem isKeys_pl {H : Hp} : ∀ {R : List (Nat × Nat)} {bs : List Addr}, IsKeys H (plK R) bs → (bs.map V.ref).map (plOf H) = R ∧ ∀ b ∈ bs, ∃ q, q ∈ R ∧ H b = some (cT q)
  | [], _, h => by
    cases h
    exact ⟨rfl, fun b hb => by cases hb⟩
  | q :: R, _, h => by
    cases h with
    | @cons _ b _ bs h1 h2 =>
      have h1 : H b = some (cT q) := h1
      obtain ⟨e, m⟩ := isKeys_pl h2
      refine ⟨by rw [List.map_cons, List.map_cons, e, plOf_at h1], fun x hx => ?_⟩
      rcases List.mem_cons.mp hx with hx | hx
      · rw [hx]; exact ⟨q, List.mem_cons_self, h1⟩
      · obtain ⟨q2, a1, a2⟩ := m x hx
        exact ⟨q2, List.mem_cons_of_mem _ a1, a2⟩
def adOf : V → Addr
  | .ref t => t
  | _ => 0
/-- the keys of a dict of places, sorted -/
theorem sorted_pl {K : PySem.W.Frag} {H : Hp} {a : Addr} {R : List (Nat × Nat)} {bs : List Addr} {Q : VK} (hk : IsKeys H (plK R) bs) (ea : H a = some (.lst (bs.map V.ref))) (q : ∀ D H' ta (pls : List (Nat × Nat)), H D = none → Same H H' → pls.Perm R → LOf H' D ta pls cT → Q (.ref D) H') : rSortedPO K [.ref a] H Q := by
  obtain ⟨e, m⟩ := isKeys_pl hk
  refine ⟨a, _, plI H, rfl, SqL.of ea, fun x hx => ?_, fun ys D _ hst hD => ?_⟩
  · obtain ⟨b, hb, rfl⟩ := List.mem_map.mp hx
    obtain ⟨q2, _, e2⟩ := m b hb
    refine ⟨b, rfl, ?_⟩
    unfold plI
    rw [plOf_at e2]
    exact e2
  · have pm : ys.Perm (bs.map V.ref) := hst.1
    have pm2 := pm.map (plOf H)
    rw [e] at pm2
    refine q D _ (fun i => adOf (ys.getD i .non)) (ys.map (plOf H)) hD (Same.new hD) pm2 ⟨?_, fun i x hx => ?_⟩
    · rw [upd_same, List.length_map]
      refine congrArg (fun l => some (HO.lst l)) (tab_ext rfl fun i hi => ?_)
      have hy : ys[i] ∈ bs.map V.ref := pm.mem_iff.mp (List.getElem_mem hi)
      obtain ⟨b, _, eb⟩ := List.mem_map.mp hy
      rw [List.getElem?_eq_getElem hi, List.getD_eq_getElem?_getD, List.getElem?_eq_getElem hi]
      show some ys[i] = some (V.ref (adOf ys[i]))
      rw [← eb]
      rfl
    · rw [List.getElem?_map] at hx
      obtain ⟨v, ev, ex⟩ := Option.map_eq_some_iff.mp hx
      have hy : v ∈ bs.map V.ref := pm.mem_iff.mp (List.mem_of_getElem? ev)
      obtain ⟨b, hb, eb⟩ := List.mem_map.mp hy
      obtain ⟨q2, _, e2⟩ := m b hb
      rw [List.getD_eq_getElem?_getD, ev, ← ex, ← eb]
      show upd H D _ b = _
      rw [plOf_at e2, upd_ne (ne_of_none e2 hD)]
      exact e2
theorem ok_hangs (S : TX K mg) : OkF P w K mg base 12 (He.ga K "hangs") (p_places K hangM) := by
  refine okF (F_hangs S) sc_hangs (by tm_at "len") (fun _ _ _ _ _ _ us hl => match us, hl with | [_, _], _ => rfl) (fun cdv A outer s H vs Q E hr h => ?_)
  obtain ⟨p, t, h, n, r, ws, qq, rfl, F, ht, ⟨h1, h2⟩, q⟩ := h
  refine ⟨_, (pss_cons (ps_expr (pe_f (ok_need_place S) (hr.mono (by decide)) rfl (glo_need_place S) (pa_cons (pe_mt (pv 0) (cls_Plan S) (me_Plan_corner S) (ok_Plan_corner S) (hr.mono (by decide)) (pa_cons pe_int pa_nil)) (pa_cons (pv 1) pa_nil))))
    (pss_cons (ps_set (i := 2) sc_hangs.nd rfl (Or.inl rfl) (pe_d0 (k := 6) (m := "word") (pe_mt0 (pv 0) (cls_Plan S) (me_Plan_rule S) (ok_Plan_rule S) (hr.mono (by decide))) (hr.mono (by decide))))
    (pss_cons (ps_set (i := 3) sc_hangs.nd rfl (Or.inl rfl) (pe_d1 (ru1 hr.units) (pv 1) pe_bl))
    (pss_cons (ps_for PassesOwn.never rfl (pi_revR rfl (fr_reversed S) (prg_1 rfl (fr_range S) (pe_mt0 (pv 0) (cls_Plan S) (me_Plan_steps S) (ok_Plan_steps S) (hr.mono (by decide))))) (pg_name (i := 4) sc_hangs.nd rfl (Or.inl rfl)) (pss_cons (ps_set (i := 5) sc_hangs.nd rfl (Or.inl rfl) (pe_mt (pv 0) (cls_Plan S) (me_Plan_corner S) (ok_Plan_corner S) (hr.mono (by decide)) (pa_cons (pv 4) pa_nil)))
    (pss_cons (ps_set (i := 6) sc_hangs.nd rfl (Or.inl rfl) (pe_ix ix_str (pe_mt0 (pv 0) (cls_Plan S) (me_Plan_way S) (ok_Plan_way S) (hr.mono (by decide))) (pv 4) (fun _ _ => rfl)))
    (pss_cons (ps_if (pt_cmpR op_in_sign (pv 6) pe_str rfl) (pss_one (ps_set (i := 3) sc_hangs.nd rfl (Or.inl rfl) (pe_f (ok_in_pillars S) (hr.mono (by decide)) rfl (glo_in_pillars S) (pa_cons (pv 3) (pa_cons (pv 5) (pa_cons (pe_f (ok_spread_tables S) (hr.mono (by decide)) rfl (glo_spread_tables S) (pa_cons (pv 2) (pa_cons (pe_ix (kIxT (K := K) rfl) (pv 5) pe_int (fun _ _ => rfl)) pa_nil))) pa_nil)))))) pss_nil)
    (pss_one (ps_if (pt_cmpR op_in_sign (pv 6) pe_str rfl) (pss_one (ps_set (i := 3) sc_hangs.nd rfl (Or.inl rfl) (pe_f (ok_in_rows S) (hr.mono (by decide)) rfl (glo_in_rows S) (pa_cons (pv 3) (pa_cons (pv 5) (pa_cons (pe_f (ok_spread_tables S) (hr.mono (by decide)) rfl (glo_spread_tables S) (pa_cons (pv 2) (pa_cons (pe_ix (kIxT (K := K) rfl) (pv 5) pe_int (fun _ _ => rfl)) pa_nil))) pa_nil)))))) pss_nil))))))
    (pss_one (ps_ret (pe_callB (kSortedPO (K := K) rfl) rfl (fr_sorted S) bt_sorted (pa_cons (pe_callTy (call_list_dT rfl) rfl (fr_list S) bt_list (pa_cons (pv 3) pa_nil)) pa_nil)))))))), ?_⟩
  have wl := F.wlen
  have z := F.sz
  have zh := z.h2
  have zw := z.w2
  have F0 := F
  obtain ⟨⟨dx, ru, ca, tc, hp, hr1, c⟩, _, _⟩ := F0
  tm_at "go"
  refine gMeE hp rfl ?_
  tm_at "go"
  refine ⟨p, h, n, r, ws, 0, rfl, F, Nat.zero_le _, fun c0 hc0 => ?_⟩
  rw [cnr_zero] at hc0
  tm_at "go"
  refine ⟨c0, t, (h, n), qq, rfl, hc0, ht, h1, h2, ?_⟩
  tm_at "go"
  refine gMeE hp rfl ?_
  tm_at "go"
  refine ⟨p, h, n, r, ws, rfl, F, fun ru2 hr2 => ?_⟩
  obtain ⟨C, dx2, fw, e, cl, m, o⟩ := dyn_word S (P := P) (w := w) (base := base) hr2
  refine ⟨ru2, C, dx2, [], fw, _, rfl, e, rfl, cl, m, o, ?_⟩
  tm_at "go"
  refine ⟨_, rfl, ?_⟩
  tm_at "go"
  refine gD1 fun d hd => ?_
  tm_at "go"
  have td : t ≠ d := ne_of_none ht hd
  refine ⟨t, pk qq, rfl, by rw [upd_ne td]; exact ht, upd_same, ?_⟩
  have s1 : Same H (upd (upd H d (.dT [])) d (.dT [(pk qq, .bl true)])) := (Same.new hd).mut hd
  have dp : DictP (upd (upd H d (.dT [])) d (.dT [(pk qq, .bl true)])) d (hgSet r (h, n) ws (· = qq) 0) := ⟨[qq], List.nodup_cons.mpr ⟨List.not_mem_nil, List.nodup_nil⟩, fun x => List.mem_singleton, upd_same⟩
  generalize upd (upd H d (.dT [])) d (.dT [(pk qq, .bl true)]) = H1 at s1 dp ⊢
  have ig : InG (h, n) (· = qq) := fun x hx => by rw [hx]; exact ⟨h1, h2⟩
  tm_at "go"
  refine gMeE (s1 _ _ hp) rfl ?_
  tm_at "go"
  refine ⟨p, h, n, r, ws, rfl, F.same s1, ?_⟩
  refine gRvN (n := ws.length) (by omega) ?_
  refine forIt (wRv0 (n := ws.length)) (fun i σ H' => Same H H' ∧ ∃ d, DictP H' d (hgSet r (h, n) ws (· = qq) i) ∧ ∃ v1 v2 v3, σ = [some (.ref p), some (.ref t), some (.str r.word), some (.ref d), v1, v2, v3]) ⟨s1, d, dp, none, none, none, rfl⟩ (fun _ _ _ _ _ => trivial) ?_ ?_
  · clear dp s1 hd td
    rintro i x σ H3 H4 hi ⟨s3, d, dp, v1, v2, v3, rfl⟩ ⟨rfl, rfl⟩
    obtain ⟨l, hl⟩ : ∃ l, ws[ws.length - 1 - i]? = some l := ⟨_, List.getElem?_eq_getElem (by omega)⟩
    have ew : hgSet r (h, n) ws (· = qq) (i + 1) = hgStep r l (cnr (h, n) ws (ws.length - 1 - i)) (hgSet r (h, n) ws (· = qq) i) := by show (match ws[ws.length - 1 - i]? with | some l => _ | none => _) = _; rw [hl]
    rw [ew]
    have hin := hg_in (r := r) (ws := ws) ig i
    generalize ws.length - 1 - i = k at *
    have hk : k < ws.length := (List.getElem?_eq_some_iff.mp hl).1
    obtain ⟨le1, le2⟩ := cnr_le ws k (h, n)
    dsimp only at le1 le2
    have F3 := F.same s3
    have hp3 := s3 _ _ hp
    have b64 : ∀ x, hgSet r (h, n) ws (· = qq) i x → x.1 < 64 ∧ x.2 < 64 := fun x hx => by have := hin x hx; dsimp only at this; omega
    tm_at "go"
    refine gMeE hp3 rfl ?_
    tm_at "go"
    refine ⟨p, h, n, r, ws, k, rfl, F3, by omega, fun c2 hc2 => ?_⟩
    tm_at "go"
    refine gMeE hp3 rfl ?_
    tm_at "go"
    refine ⟨p, h, n, r, ws, rfl, F3, ?_⟩
    tm_at "go"
    refine gIxW hl wl ?_
    tm_at "go"
    refine in_lt ?_
    rw [inPB]
    have tabb : ∀ (m : Nat), m ≤ 64 → ∀ (i : Nat) (k : Int), i < m → k ∈ spreadL r m (i : Int) → 0 ≤ k ∧ k < 64 := fun m hm i k hi hk => by have := spreadL_in r hi hk; omega
    cases l with
    | p =>
      tm_at "go"
      refine gIxT (SqT.of hc2) (i := 0) rfl ?_
      tm_at "go"
      refine ⟨r, (cnr (h, n) ws k).1, rfl, by omega, fun T H5 s5 tT => ?_⟩
      tm_at "go"
      refine ⟨d, c2, T, _, _, _, rfl, dp.same s5, b64, s5 _ _ hc2, tT, tabb _ (by dsimp only; omega), fun d2 H6 s6 _ dp6 => ?_⟩
      tm_at "go"
      refine in_lt ?_
      rw [inRB]
      tm_at "go"
      exact ⟨s3.trans (s5.trans s6), d2, dp6, _, _, _, rfl⟩
    | r =>
      tm_at "go"
      refine in_lt ?_
      rw [inRB]
      tm_at "go"
      refine gIxT (SqT.of hc2) (i := 1) rfl ?_
      tm_at "go"
      refine ⟨r, (cnr (h, n) ws k).2, rfl, by omega, fun T H5 s5 tT => ?_⟩
      tm_at "go"
      refine ⟨d, c2, T, _, _, _, rfl, dp.same s5, b64, s5 _ _ hc2, tT, tabb _ (by dsimp only; omega), fun d2 H6 s6 _ dp6 => ?_⟩
      exact ⟨s3.trans (s5.trans s6), d2, dp6, _, _, _, rfl⟩
    | b =>
      tm_at "go"
      refine gIxT (SqT.of hc2) (i := 0) rfl ?_
      tm_at "go"
      refine ⟨r, (cnr (h, n) ws k).1, rfl, by omega, fun T H5 s5 tT => ?_⟩
      tm_at "go"
      refine ⟨d, c2, T, _, _, _, rfl, dp.same s5, b64, s5 _ _ hc2, tT, tabb _ (by dsimp only; omega), fun d2 H6 s6 _ dp6 => ?_⟩
      have in6 : InG (h, n) (fun q => ∃ p, hgSet r (h, n) ws (· = qq) i p ∧ relP (spreadL r (cnr (h, n) ws k).1) (cnr (h, n) ws k) p q) := InG.relP hin ⟨le1, le2⟩ fun i k => spreadL_in r
      tm_at "go"
      refine in_lt ?_
      rw [inRB]
      tm_at "go"
      refine gIxT (SqT.of (s6 _ _ (s5 _ _ hc2))) (i := 1) rfl ?_
      tm_at "go"
      refine ⟨r, (cnr (h, n) ws k).2, rfl, by omega, fun T2 H7 s7 tT2 => ?_⟩
      tm_at "go"
      refine ⟨d2, c2, T2, _, _, _, rfl, dp6.same s7, fun x hx => by have := in6 x hx; dsimp only at this; omega, s7 _ _ (s6 _ _ (s5 _ _ hc2)), tT2, tabb _ (by dsimp only; omega), fun d3 H8 s8 _ dp8 => ?_⟩
      exact ⟨s3.trans (s5.trans (s6.trans (s7.trans s8))), d3, dp8, _, _, _, rfl⟩
  · clear dp s1 hd td
    rintro σ H3 ⟨s3, d, ⟨R, nR, mR, eR⟩, v1, v2, v3, rfl⟩
    tm_at "go"
    refine ⟨d, _, rfl, .inl eR, fun a bs ha hk => ?_⟩
    generalize hg9 : upd _ _ _ = H9
    obtain ⟨s9, e9⟩ := newF hg9 ha
    refine sorted_pl (R := R) ?_ e9 fun D H8 ta pls hD s8 pm lo => ?_
    · exact Paired.mapP hk fun _ _ z => s9 _ _ z
    exact q D H8 ta pls (s3.trans (s9.trans s8)) (s3.free (s9.free hD)) (pm.nodup_iff.mpr nR) (fun x => by rw [pm.mem_iff, mR]; rfl) lo
/-- the places qs put one after another -/
def insAll : List (Nat × Nat) → List (Nat × Nat) → List (Nat × Nat)
  | R, [] => R
  | R, q :: qs => insAll (if q ∈ R then R else R ++ [q]) qs
theorem insAll_ok : ∀ (qs R : List (Nat × Nat)), R.Nodup → (insAll R qs).Nodup ∧ ∀ x, x ∈ insAll R qs ↔ x ∈ R ∨ x ∈ qs
  | [], R, h => ⟨h, fun x => ⟨.inl, fun h => h.elim id fun z => (by cases z)⟩⟩
  | q :: qs, R, h => by
    by_cases e : q ∈ R
    · have ih := insAll_ok qs R h
      have e2 : insAll R (q :: qs) = insAll R qs := by show insAll (if q ∈ R then R else R ++ [q]) qs = _; rw [if_pos e]
      rw [e2]
      refine ⟨ih.1, fun x => ?_⟩
      rw [ih.2 x, List.mem_cons]
      constructor
      · rintro (a | a)
        · exact .inl a
        · exact .inr (.inr a)
      · rintro (a | a | a)
        · exact .inl a
        · rw [a]; exact .inl e
        · exact .inr a
    · have h2 : (R ++ [q]).Nodup := List.nodup_append.mpr ⟨h, List.nodup_cons.mpr ⟨List.not_mem_nil, List.nodup_nil⟩, fun a ha b hb e2 => by rw [List.mem_singleton] at hb; exact e (by rw [← hb, ← e2]; exact ha)⟩
      have ih := insAll_ok qs (R ++ [q]) h2
      have e2 : insAll R (q :: qs) = insAll (R ++ [q]) qs := by show insAll (if q ∈ R then R else R ++ [q]) qs = _; rw [if_neg e]
      rw [e2]
      refine ⟨ih.1, fun x => ?_⟩
      rw [ih.2 x, List.mem_cons, List.mem_append, List.mem_singleton, or_assoc]
theorem putAll_pl {α : Type} {f g : α → Addr} {u : α → Nat × Nat} : ∀ (ts : List α) (R : List (Nat × Nat)), putAll (plK R) (ts.map fun t => (f t, g t, pk (u t))) = plK (insAll R (ts.map u))
  | [], R => rfl
  | t :: ts, R => by
    show putAll (putK (plK R) (pk (u t)) (.bl true)) (ts.map fun t => (f t, g t, pk (u t))) = plK (insAll (if u t ∈ R then R else R ++ [u t]) (ts.map u))
    rw [plK_put]
    split
    · exact putAll_pl ts R
    · exact putAll_pl ts (R ++ [u t])
theorem ok_needs_behind (S : TX K mg) : OkF P w K mg base 12 (He.ga K "needs_behind") (p_needs_behind K) := by
  refine okF (F_needs_behind S) sc_needs_behind (by tm_at "len") (fun _ _ _ _ _ _ us hl => match us, hl with | [_, _, _], _ => rfl) (fun cdv A outer s H vs Q E hr h => ?_)
  obtain ⟨p, a, h, n, r, ws, tq, qs, rfl, F, lq, hq, lqs, q⟩ := h
  refine ⟨_, (pss_cons (ps_set (i := 3) sc_needs_behind.nd rfl (Or.inl rfl) (pe_d0 (k := 6) (m := "word") (pe_mt0 (pv 0) (cls_Plan S) (me_Plan_rule S) (ok_Plan_rule S) (hr.mono (by decide))) (hr.mono (by decide))))
    (pss_cons (ps_set (i := 4) sc_needs_behind.nd rfl (Or.inl rfl) (pe_callTy (call_dictT (K := K) rfl rfl (ru2 hr.units)) rfl (fr_dict S) bt_dict (pa_cons (pe_lc (own := [("place", 8)]) (g := gName 8) (tt := tYes) rfl sc_needs_behind.nd (kList (K := K) rfl (pv 2)) (blkOk_by (own := [("place", 8)]) (N := ["plan", "step", "places", "word", "found", "at", "corner", "letter", "place"]) (sc := defScope s_needs_behind) (by decide +kernel)) (fun _ _ _ _ _ => (pg_name (i := 8) sc_needs_behind.nd rfl (Or.inl rfl))) (fun _ _ _ _ _ => pts_nil) (fun _ _ _ _ _ => (pe_tup (pa_cons (pv 8) (pa_cons pe_bl pa_nil))))) pa_nil)))
    (pss_cons (ps_for PassesOwn.never rfl (pi_range2 rfl (fr_range S) (pa_cons (pv 1) (pa_cons (pe_mt0 (pv 0) (cls_Plan S) (me_Plan_steps S) (ok_Plan_steps S) (hr.mono (by decide))) pa_nil))) (pg_name (i := 5) sc_needs_behind.nd rfl (Or.inl rfl)) (pss_cons (ps_set (i := 6) sc_needs_behind.nd rfl (Or.inl rfl) (pe_mt (pv 0) (cls_Plan S) (me_Plan_corner S) (ok_Plan_corner S) (hr.mono (by decide)) (pa_cons (pv 5) pa_nil)))
    (pss_cons (ps_set (i := 7) sc_needs_behind.nd rfl (Or.inl rfl) (pe_ix ix_str (pe_mt0 (pv 0) (cls_Plan S) (me_Plan_way S) (ok_Plan_way S) (hr.mono (by decide))) (pv 5) (fun _ _ => rfl)))
    (pss_cons (ps_if (pt_cmpR op_in_sign (pv 7) pe_str rfl) (pss_one (ps_set (i := 4) sc_needs_behind.nd rfl (Or.inl rfl) (pe_f (ok_in_rows S) (hr.mono (by decide)) rfl (glo_in_rows S) (pa_cons (pv 4) (pa_cons (pv 6) (pa_cons (pe_f (ok_back_tables S) (hr.mono (by decide)) rfl (glo_back_tables S) (pa_cons (pv 3) (pa_cons (pe_ix (kIxT (K := K) rfl) (pv 6) pe_int (fun _ _ => rfl)) pa_nil))) pa_nil)))))) pss_nil)
    (pss_one (ps_if (pt_cmpR op_in_sign (pv 7) pe_str rfl) (pss_one (ps_set (i := 4) sc_needs_behind.nd rfl (Or.inl rfl) (pe_f (ok_in_pillars S) (hr.mono (by decide)) rfl (glo_in_pillars S) (pa_cons (pv 4) (pa_cons (pv 6) (pa_cons (pe_f (ok_back_tables S) (hr.mono (by decide)) rfl (glo_back_tables S) (pa_cons (pv 3) (pa_cons (pe_ix (kIxT (K := K) rfl) (pv 6) pe_int (fun _ _ => rfl)) pa_nil))) pa_nil)))))) pss_nil))))))
    (pss_one (ps_ret (pe_callB (kSortedPO (K := K) rfl) rfl (fr_sorted S) bt_sorted (pa_cons (pe_callTy (call_list_dT rfl) rfl (fr_list S) bt_list (pa_cons (pv 4) pa_nil)) pa_nil))))))), ?_⟩
  have wl := F.wlen
  have z := F.sz
  have zh := z.h2
  have zw := z.w2
  have F0 := F
  obtain ⟨⟨dx, ru, ca, tc, hp, hr1, c⟩, _, _⟩ := F0
  tm_at "go"
  refine gMeE hp rfl ?_
  tm_at "go"
  refine ⟨p, h, n, r, ws, rfl, F, fun ru2 hr2 => ?_⟩
  obtain ⟨C, dx2, fw, e, cl, m, o⟩ := dyn_word S (P := P) (w := w) (base := base) hr2
  refine ⟨ru2, C, dx2, [], fw, _, rfl, e, rfl, cl, m, o, ?_⟩
  tm_at "go"
  refine ⟨_, rfl, ?_⟩
  tm_at "go"
  refine gL1 (SqL.of lq.top) ?_
  intro B hB
  refine lcIt (wTab (m := qs.length) (f := fun i => .ref (tq i))) (fun i H' => ∃ tb, NewL H H' B i tb fun j => .tup [.ref (tq j), .bl true]) ⟨tq, NewL.nil hB⟩ (fun i H' _ ⟨tb, N⟩ => SqL.of (N.same _ _ lq.top)) ?_ ?_
  · rintro i x H1 H2 hi ⟨tb, N⟩ ⟨rfl, rfl⟩
    tm_at "go"
    refine ⟨rfl, ?_⟩
    tm_at "go"
    refine ⟨szL rfl, fun t ht => ?_⟩
    exact ⟨_, get_new ht N.top, by rw [tab_len]; exact line_lt (by omega), _, N.push ht upd_same (Same.new ht)⟩
  rintro H1 ⟨tb, N⟩
  tm_at "go"
  have eqs : (List.range qs.length).map (fun i => qs.getD i (0, 0)) = qs := by
    refine List.ext_getElem? fun i => ?_
    by_cases hi : i < qs.length
    · rw [List.getElem?_map, List.getElem?_range hi, List.getElem?_eq_getElem hi]
      show some (qs.getD i (0, 0)) = some qs[i]
      rw [List.getD_eq_getElem?_getD, List.getElem?_eq_getElem hi]
      rfl
    · rw [List.getElem?_eq_none_iff.mpr (by rw [List.length_map, List.length_range]; omega), List.getElem?_eq_none_iff.mpr (by omega)]
  refine ⟨B, (List.range qs.length).map fun i => (tb i, tq i, pk (qs.getD i (0, 0))), rfl, ?_, fun t ht => ?_, fun d hd => ?_⟩
  · rw [List.map_map]
    exact SqL.of N.top
  · obtain ⟨i, hi, rfl⟩ := List.mem_map.mp ht
    rw [List.mem_range] at hi
    have e1 := lq.it i _ (List.getElem?_eq_getElem hi)
    refine ⟨SqT.of (N.it i hi), N.same _ _ ?_⟩
    show H (tq i) = some (.tup ((pk (qs.getD i (0, 0))).map kV))
    rw [List.getD_eq_getElem?_getD, List.getElem?_eq_getElem hi]
    exact e1
  generalize hg2 : upd _ _ _ = H2
  obtain ⟨s2, ed⟩ := newF hg2 hd
  have ig : InG (h, n) (· ∈ qs) := fun x hx => hq x hx
  have dp : DictP H2 d (ndSet r (h, n) ws (· ∈ qs) 0) := by
    have io := insAll_ok qs [] List.nodup_nil
    refine ⟨insAll [] qs, io.1, fun x => ?_, ?_⟩
    · rw [io.2]
      exact ⟨fun h => h.elim (fun z => by cases z) id, .inr⟩
    · rw [ed]
      have := putAll_pl (f := tb) (g := tq) (u := fun i => qs.getD i (0, 0)) (List.range qs.length) []
      rw [eqs] at this
      rw [← this]
      rfl
  have s1 : Same H H2 := N.same.trans s2
  have hnd : H d = none := N.same.free hd
  tm_at "go"
  refine gMeE (s1 _ _ hp) rfl ?_
  tm_at "go"
  refine ⟨p, h, n, r, ws, rfl, F.same s1, ?_⟩
  refine gR2 (by omega) (by omega) ?_
  rw [show ((ws.length : Nat) : Int) - 0 = ((ws.length : Nat) : Int) by omega, Int.toNat_natCast]
  refine forIt (wRange (m := ws.length)) (fun i σ H' => Same H H' ∧ ∃ d, DictP H' d (ndSet r (h, n) ws (· ∈ qs) i) ∧ ∃ v1 v2 v3, σ = [some (.ref p), some (.int 0), some (.ref a), some (.str r.word), some (.ref d), v1, v2, v3, none]) ⟨s1, d, dp, none, none, none, rfl⟩ (fun _ _ _ _ _ => trivial) ?_ ?_
  · clear dp s1 hd hnd hg2 ed s2
    rintro i x σ H3 H4 hi ⟨s3, d, dp, v1, v2, v3, rfl⟩ ⟨rfl, rfl⟩
    obtain ⟨l, hl⟩ : ∃ l, ws[i]? = some l := ⟨_, List.getElem?_eq_getElem hi⟩
    have ew : ndSet r (h, n) ws (· ∈ qs) (i + 1) = ndStep r l (cnr (h, n) ws i) (ndSet r (h, n) ws (· ∈ qs) i) := by show (match ws[i]? with | some l => _ | none => _) = _; rw [hl]
    rw [ew]
    have hin := nd_in (r := r) (ws := ws) ig i
    obtain ⟨k, hki⟩ : ∃ k, k = i := ⟨i, rfl⟩
    rw [← hki] at hl ⊢
    have hk : k < ws.length := (List.getElem?_eq_some_iff.mp hl).1
    obtain ⟨le1, le2⟩ := cnr_le ws k (h, n)
    dsimp only at le1 le2
    have F3 := F.same s3
    have hp3 := s3 _ _ hp
    have b64 : ∀ x, ndSet r (h, n) ws (· ∈ qs) k x → x.1 < 64 ∧ x.2 < 64 := fun x hx => by rw [hki] at hx; have := hin x hx; dsimp only at this; omega
    rw [← hki] at dp hin
    tm_at "go"
    refine gMeE hp3 rfl ?_
    tm_at "go"
    refine ⟨p, h, n, r, ws, k, rfl, F3, by omega, fun c2 hc2 => ?_⟩
    tm_at "go"
    refine gMeE hp3 rfl ?_
    tm_at "go"
    refine ⟨p, h, n, r, ws, rfl, F3, ?_⟩
    tm_at "go"
    refine gIxW hl wl ?_
    tm_at "go"
    refine in_lt ?_
    rw [inRB]
    have tabb : ∀ (m : Nat), m ≤ 64 → ∀ (i : Nat) (k : Int), i < m → k ∈ backL r m (i : Int) → 0 ≤ k ∧ k < 64 := fun m hm i k hi hk => by have := backL_in r hi hk; omega
    cases l with
    | r =>
      tm_at "go"
      refine gIxT (SqT.of hc2) (i := 1) rfl ?_
      tm_at "go"
      refine ⟨r, (cnr (h, n) ws k).2, rfl, by omega, fun T H5 s5 tT => ?_⟩
      tm_at "go"
      refine ⟨d, c2, T, _, _, _, rfl, dp.same s5, b64, s5 _ _ hc2, tT, tabb _ (by dsimp only; omega), fun d2 H6 s6 _ dp6 => ?_⟩
      tm_at "go"
      refine in_lt ?_
      rw [inPB]
      tm_at "go"
      exact ⟨s3.trans (s5.trans s6), d2, dp6, _, _, _, rfl⟩
    | p =>
      tm_at "go"
      refine in_lt ?_
      rw [inPB]
      tm_at "go"
      refine gIxT (SqT.of hc2) (i := 0) rfl ?_
      tm_at "go"
      refine ⟨r, (cnr (h, n) ws k).1, rfl, by omega, fun T H5 s5 tT => ?_⟩
      tm_at "go"
      refine ⟨d, c2, T, _, _, _, rfl, dp.same s5, b64, s5 _ _ hc2, tT, tabb _ (by dsimp only; omega), fun d2 H6 s6 _ dp6 => ?_⟩
      exact ⟨s3.trans (s5.trans s6), d2, dp6, _, _, _, rfl⟩
    | b =>
      tm_at "go"
      refine gIxT (SqT.of hc2) (i := 1) rfl ?_
      tm_at "go"
      refine ⟨r, (cnr (h, n) ws k).2, rfl, by omega, fun T H5 s5 tT => ?_⟩
      tm_at "go"
      refine ⟨d, c2, T, _, _, _, rfl, dp.same s5, b64, s5 _ _ hc2, tT, tabb _ (by dsimp only; omega), fun d2 H6 s6 _ dp6 => ?_⟩
      have in6 : InG (h, n) (fun q => ∃ p, ndSet r (h, n) ws (· ∈ qs) k p ∧ relR (backL r (cnr (h, n) ws k).2) (cnr (h, n) ws k) p q) := InG.relR hin ⟨le1, le2⟩ fun i k => backL_in r
      tm_at "go"
      refine in_lt ?_
      rw [inPB]
      tm_at "go"
      refine gIxT (SqT.of (s6 _ _ (s5 _ _ hc2))) (i := 0) rfl ?_
      tm_at "go"
      refine ⟨r, (cnr (h, n) ws k).1, rfl, by omega, fun T2 H7 s7 tT2 => ?_⟩
      tm_at "go"
      refine ⟨d2, c2, T2, _, _, _, rfl, dp6.same s7, fun x hx => by have := in6 x hx; dsimp only at this; omega, s7 _ _ (s6 _ _ (s5 _ _ hc2)), tT2, tabb _ (by dsimp only; omega), fun d3 H8 s8 _ dp8 => ?_⟩
      exact ⟨s3.trans (s5.trans (s6.trans (s7.trans s8))), d3, dp8, _, _, _, rfl⟩
  · clear dp s1 hd hnd hg2 ed s2
    rintro σ H3 ⟨s3, d, ⟨R, nR, mR, eR⟩, v1, v2, v3, rfl⟩
    tm_at "go"
    refine ⟨d, _, rfl, .inl eR, fun a bs ha hk => ?_⟩
    generalize hg9 : upd _ _ _ = H9
    obtain ⟨s9, e9⟩ := newF hg9 ha
    refine sorted_pl (R := R) ?_ e9 fun D H8 ta pls hD s8 pm lo => ?_
    · exact Paired.mapP hk fun _ _ z => s9 _ _ z
    exact q D H8 ta pls (s3.trans (s9.trans s8)) (s3.free (s9.free hD)) (pm.nodup_iff.mpr nR) (fun x => by rw [pm.mem_iff, mR]; rfl) lo
theorem ok_needs (S : TX K mg) : OkF P w K mg base 13 (He.ga K "needs") (p_places K needM) := by
  refine okF (F_needs S) sc_needs (by tm_at "len") (fun _ _ _ _ _ _ us hl => match us, hl with | [_, _], _ => rfl) (fun cdv A outer s H vs Q E hr h => ?_)
  obtain ⟨p, t, h, n, r, ws, qq, rfl, F, ht, ⟨h1, h2⟩, q⟩ := h
  refine ⟨_, (pss_cons (ps_expr (pe_f (ok_need_place S) (hr.mono (by decide)) rfl (glo_need_place S) (pa_cons (pe_mt (pv 0) (cls_Plan S) (me_Plan_corner S) (ok_Plan_corner S) (hr.mono (by decide)) (pa_cons pe_int pa_nil)) (pa_cons (pv 1) pa_nil))))
    (pss_one (ps_ret (pe_f (ok_needs_behind S) (hr.mono (by decide)) rfl (glo_needs_behind S) (pa_cons (pv 0) (pa_cons pe_int (pa_cons (pe_lst (pa_cons (pv 1) pa_nil)) pa_nil))))))), ?_⟩
  have F0 := F
  obtain ⟨⟨dx, ru, ca, tc, hp, hr1, c⟩, _, _⟩ := F0
  tm_at "go"
  refine gMeE hp rfl ?_
  tm_at "go"
  refine ⟨p, h, n, r, ws, 0, rfl, F, Nat.zero_le _, fun c0 hc0 => ?_⟩
  rw [cnr_zero] at hc0
  tm_at "go"
  refine ⟨c0, t, (h, n), qq, rfl, hc0, ht, h1, h2, ?_⟩
  tm_at "go"
  refine ⟨szL rfl, fun B hB => ?_⟩
  generalize hg1 : upd _ _ _ = H1
  obtain ⟨s1, eB⟩ := newF hg1 hB
  tm_at "go"
  refine ⟨p, B, h, n, r, ws, fun _ => t, [qq], rfl, F.same s1, LOf.one eB (s1 _ _ ht), fun x hx => by rw [List.mem_singleton] at hx; rw [hx]; exact ⟨h1, h2⟩, by simp, fun D H2 ta pls s2 hD nd hm lo => ?_⟩
  refine q D H2 ta pls (s1.trans s2) (s1.free hD) nd (fun x => ?_) lo
  rw [hm, show (fun x => x ∈ [qq]) = (· = qq) from funext fun x => propext List.mem_singleton]
end
end Kp
/-! asking: a field made of answers -/
namespace Kp
open PySem PySem.Spec L2
/-- what may be called as ask(place): the function object at f stands in base -/
structure AskOk (P : Program) (w : World) (K : PySem.W.Frag) (mg : Str → Option Value) (base : Heap) (ka : Nat) (f : Addr) (sp : Pm) : Prop where
  fn : PySem.W.FnAt f base
  run : ∀ (A : Around) (outer : List Env) (s : Shared) (H : Hp) (us : List Value) (vs : List V) (Q : VK), Room ka A → Env0 P w K mg base A outer s H → Vals vs us → sp vs H Q → codeAny (model P w) A (.call (.ref f) ⟨us, []⟩) (CR CX0 outer P w H s Q E0) s
def tAsk (P : Program) (w : World) (K : PySem.W.Frag) (mg : Str → Option Value) (base : Heap) (ka i : Nat) (t : TA) : TE := fun σ H Q => ∃ f sp, σ[i]? = some (some (.ref f)) ∧ AskOk P w K mg base ka f sp ∧ t σ H fun vs H1 => sp vs H1 Q
theorem gAsk {P : Program} {w : World} {K : PySem.W.Frag} {mg : Str → Option Value} {base : Heap} {ka i : Nat} {t : TA} {σ : St} {H : Hp} {Q : VK} (h : ∃ f sp, σ[i]? = some (some (.ref f)) ∧ AskOk P w K mg base ka f sp ∧ t σ H fun vs H1 => sp vs H1 Q) : tAsk P w K mg base ka i t σ H Q := h
theorem pe_ask {X : Cx} {ka i : Nat} {x : Str} {p pos : Pos} {e : Expr} {es : List Expr} {t : TA} (hr : Room ka X.A) (hN : X.N[i]? = some x) (hv : Vis X.env.scope x) (ha : PA X (e :: es) t)
    (hdb : (x == ("__debug__" : Str)) = false := by decide) (hcd : (x == ("__classdict__" : Str)) = false := by decide)
    (he : starEach (e :: es) X.env = (false, eval e X.env) :: starEach es X.env := by rfl) (hpl : (backTo pos (starEach es X.env)).any (·.1) = false := by rfl) : PE X (.Call (.Name x p) (e :: es) [] pos) (tAsk X.prog X.w X.K X.mg X.base ka i t) := by
  refine ⟨fun pins s σ H Q I h => ?_⟩
  obtain ⟨f, sp, hs, F, ht⟩ := h
  refine wpAny_Call_Name_kw (thn ((pe_var (pos := p) hN hv hdb hcd).run pins s σ H (fun v H1 => v = .ref f ∧ H1 = H) I ⟨.ref f, hs, rfl, rfl⟩) fun u s1 ⟨v, H1, I1, r1, q1⟩ => ?_)
  obtain ⟨rfl, rfl⟩ := q1
  cases r1
  have fnk : ∀ {s : Shared} {σ H}, L2.Inv X pins σ H s → PySem.W.FnAt f s.heap := fun I => let ⟨oc, od, fd, sl, z⟩ := F.fn; ⟨oc, od, fd, sl, I.bk _ _ z⟩
  refine PySem.W.callWith_F (first := []) (fnk I1) (thn (ha.run pos pins s1 σ _ _ I1 ht) fun us s2 ⟨vs, H2, I2, r, q⟩ => ⟨fnk I2, ?_⟩) he hpl
  refine wpAny_call (codeAny_mono (F.run X.A X.stack s2 H2 us vs Q hr I2.env0 r q) fun r s' hq => ?_)
  cases r with
  | error e => exact pass0 pins σ H2 s2 e s' I2 hq
  | ok fl =>
    cases fl with
    | ret u => exact I2.after hq
    | next => exact False.elim hq
    | brk => exact False.elim hq
    | cont => exact False.elim hq
/-- all but what is at T's addresses and the tables -/
def ExtS (T : Addr → Prop) (H H' : Hp) : Prop := ∀ b o, H b = some o → ¬ T b → (∀ ps, o ≠ .tbl ps) → H' b = some o
theorem ExtS.refl (T : Addr → Prop) (H : Hp) : ExtS T H H := fun _ _ h _ _ => h
theorem ExtS.trans {T : Addr → Prop} {H H1 H2 : Hp} (a : ExtS T H H1) (b : ExtS T H1 H2) : ExtS T H H2 := fun c o h n m => b c o (a c o h n m) n m
theorem ExtS.of {T : Addr → Prop} {H H' : Hp} (s : Same H H') : ExtS T H H' := fun b o h _ _ => s b o h
/-- an answerer's own state: J, the lists that it may change T, all lists that it looks at F -/
structure AskJ (J : Nat → Hp → Prop) (T F : Addr → Prop) (H : Hp) : Prop where
  now : J 0 H
  stay : ∀ (n : Nat) (H1 H2 : Hp) (N : Addr → Prop), J n H1 → Kept N H1 H2 → (∀ b, N b → (∀ o, H1 b = some o → ∃ xs, o = .lst xs) ∧ ¬ F b) → J n H2
  lst : ∀ b, T b → ∃ xs, H b = some (.lst xs)
  look : ∀ b, F b → H b ≠ none
  sub : ∀ b, T b → F b
theorem AskJ.same {J : Nat → Hp → Prop} {T F : Addr → Prop} {H H' : Hp} (a : AskJ J T F H) (s : Same H H') : AskJ J T F H' :=
  ⟨a.stay 0 H H' (fun _ => False) a.now (Kept.of s) fun b h => h.elim, a.stay, fun b h => let ⟨xs, e⟩ := a.lst b h; ⟨xs, s _ _ e⟩, fun b h e => (by
    cases q : H b with
    | none => exact a.look b h q
    | some o => rw [s _ _ q] at e; cases e), a.sub⟩
/-- the answers to the places pls: g -/
def Answers (sp : Pm) (J : Nat → Hp → Prop) (T : Addr → Prop) (pls : List (Nat × Nat)) (g : G2) : Prop := ∀ (n : Nat) (H1 : Hp) (t : Addr) (q : Nat × Nat) (Q : VK), n < 4096 → J n H1 → H1 t = some (cT q) → q ∈ pls → (∀ H2, J (n + 1) H2 → ExtS T H1 H2 → Q (.int (g q.1 q.2)) H2) → sp [.ref t] H1 Q
def maskL (pls : List (Nat × Nat)) (g : G2) : G2 := fun y x => if (y, x) ∈ pls then g y x else 0
def p_asked_field (P : Program) (w : World) (K : PySem.W.Frag) (mg : Str → Option Value) (base : Heap) (ka : Nat) : Pm := fun vs H Q => ∃ (p f a : Addr) (h w0 : Nat) (r : Rl) (ws : List L) (ta : Nat → Addr) (pls : List (Nat × Nat)) (sp : Pm) (J : Nat → Hp → Prop) (T F : Addr → Prop) (g : G2), vs = [.ref p, .ref f, .ref a] ∧
  PlanAt K H p h w0 r ws ∧ AskOk P w K mg base ka f sp ∧ AskJ J T F H ∧ LOf H a ta pls cT ∧ ¬ T a ∧ (∀ q ∈ pls, q.1 < h ∧ q.2 < w0) ∧ pls.length ≤ 4096 ∧ Answers sp J T pls g ∧ Bd 999999999999999 h w0 (maskL pls g) ∧
  ∀ x H', J pls.length H' → ExtS T H H' → FieldAt K H' x h w0 (maskL pls g) → Q (.ref x) H'
section
variable {P : Program} {w : World} {K : PySem.W.Frag} {mg : Str → Option Value} {base : Heap}
theorem ok_asked_field (S : TX K mg) (ka : Nat) : OkF P w K mg base (ka+20) (He.ga K "asked_field") (p_asked_field P w K mg base ka) := by
  refine okF (F_asked_field S) sc_asked_field (by tm_at "len") (fun _ _ _ _ _ _ us hl => match us, hl with | [_, _, _], _ => rfl) (fun cdv A outer s H vs Q E hr h => ?_)
  obtain ⟨p, f, a, h, n, r, ws, ta, pls, sp, J, T, F, g, rfl, Pl, ask, aj, lo, nTa, hin, hl, an, hb, q⟩ := h
  refine ⟨_, (pss_cons (ps_setLc (i := 3) (own := [("row", 5)]) (g := gName 5) (tt := tYes)  rfl sc_asked_field.nd rfl rfl (sw_true rfl rfl rfl (by decide +kernel)) (pi_range1 rfl (fr_range S) (pa_cons (pe_mt0 (pv 0) (cls_Plan S) (me_Plan_height S) (ok_Plan_height S) (hr.mono (by omega))) pa_nil)) (blkOk_by (own := [("row", 5)]) (N := ["plan", "ask", "places", "rows", "place", "row"]) (sc := defScope s_asked_field) (by decide +kernel)) (fun _ _ _ _ _ => (pg_name (i := 5) sc_asked_field.nd rfl (Or.inl rfl))) (fun _ _ _ _ _ => pts_nil) (fun _ _ _ _ _ => (pe_op op_rep (pe_lst (pa_cons pe_int pa_nil)) (pe_mt0 (pv 0) (cls_Plan S) (me_Plan_width S) (ok_Plan_width S) (hr.mono (by omega))))))
    (pss_cons (ps_for PassesOwn.never rfl (kList (K := K) rfl (pv 2)) (pg_name (i := 4) sc_asked_field.nd rfl (Or.inl rfl)) (pss_one (ps_asg (pe_ask (i := 1) (ka := ka) (hr.mono (by omega)) rfl (Or.inl rfl) (pa_cons (pv 4) pa_nil)) (pg_sub (pe_ix (kIxL (K := K) rfl) (pv 3) (pe_ix (kIxT (K := K) rfl) (pv 4) pe_int (fun _ _ => rfl)) (fun _ _ => rfl)) (pe_ix (kIxT (K := K) rfl) (pv 4) pe_int (fun _ _ => rfl)) set_list))))
    (pss_one (ps_ret (pe_mk (mkr_Field S) (ok_Field_init S) (hr.mono (by omega)) rfl (glo_Field S) (pa_cons (pv 3) pa_nil)))))), ?_⟩
  have z := Pl.sz
  have zh := z.h2
  have zw := z.w2
  have Pl0 := Pl
  obtain ⟨⟨dx, ru, ca, tc, hp, hr1, c⟩, _, _⟩ := Pl0
  tm_at "go"
  refine gMeE hp rfl ?_
  tm_at "go"
  refine ⟨p, h, n, r, ws, rfl, Pl, ?_⟩
  refine gR1 (by omega) ?_
  rw [Int.toNat_natCast]
  intro D hD
  refine lcIt (wRange (m := h)) (fun i H' => ∃ rb, NewL H H' D i rb fun _ => .lst (irow n fun _ => 0)) ⟨fun _ => 0, NewL.nil hD⟩ (fun _ _ _ _ => trivial) ?_ ?_
  · rintro i x H1 H2 hi ⟨rb, N⟩ ⟨rfl, rfl⟩
    tm_at "go"
    refine ⟨rfl, ?_⟩
    tm_at "go"
    refine ⟨szL rfl, fun e he => ?_⟩
    generalize hg : upd _ _ _ = H3
    obtain ⟨s3, e3⟩ := newF hg he
    tm_at "go"
    refine gMeE (s3 _ _ (N.same _ _ hp)) rfl ?_
    tm_at "go"
    refine ⟨p, h, n, r, ws, rfl, (Pl.same N.same).same s3, ?_⟩
    refine ⟨e, _, _, rfl, rfl, e3, by omega, by omega, by rw [Int.toNat_natCast]; exact line_le (by show 1 * n ≤ _; omega), fun l hl => ?_⟩
    rw [Int.toNat_natCast, tab_flat]
    have N3 := N.same' s3
    exact ⟨_, get_new hl N3.top, by rw [tab_len]; exact line_lt (by omega), _, N3.push hl upd_same (Same.new hl)⟩
  rintro H1 ⟨rb, N⟩
  have R1 : RowsX H1 D rb h n (maskL [] g) := (RowsX.of N).congr fun y x _ _ => (if_neg List.not_mem_nil).symm
  have aj1 := aj.same N.same
  have TD : ¬ T D := fun t => by obtain ⟨xs, e⟩ := aj.lst D t; rw [hD] at e; cases e
  have Trb : ∀ y, y < h → ¬ T (rb y) := fun y hy t => by obtain ⟨xs, e⟩ := aj.lst _ t; rw [N.fr y hy] at e; cases e
  have Frb : ∀ y, y < h → ¬ F (rb y) := fun y hy t => aj.look _ t (N.fr y hy)
  tm_at "go"
  refine gL1 (SqL.of (N.same _ _ lo.top)) ?_
  have keepLo : ∀ H2, ExtS T H H2 → LOf H2 a ta pls cT := fun H2 e2 => ⟨e2 _ _ lo.top nTa (fun ps z => by cases z), fun i x hx => e2 _ _ (lo.it i x hx) (fun t => by obtain ⟨xs, e⟩ := aj.lst _ t; rw [lo.it i x hx] at e; cases e) (fun ps z => by cases z)⟩
  refine forIt (wTab (m := pls.length) (f := fun i => .ref (ta i))) (fun i σ H' => J i H' ∧ ExtS T H H' ∧ RowsX H' D rb h n (maskL (pls.take i) g) ∧ ∃ v, σ = [some (.ref p), some (.ref f), some (.ref a), some (.ref D), v, none]) ⟨aj1.now, ExtS.of N.same, R1, none, rfl⟩ (fun i σ H' _ z => SqL.of (keepLo _ z.2.1).top) ?_ ?_
  · rintro i x σ H2 H3 hi ⟨j2, e2, R2, v, rfl⟩ ⟨rfl, rfl⟩
    have hq : pls[i]? = some pls[i] := List.getElem?_eq_getElem hi
    have et := (keepLo _ e2).it i _ hq
    obtain ⟨q1, q2⟩ := hin _ (List.mem_of_getElem? hq)
    tm_at "go"
    refine ⟨f, sp, rfl, ask, ?_⟩
    tm_at "go"
    refine an i _ _ _ _ (by omega) j2 et (List.mem_of_getElem? hq) fun H4 j4 e4 => ?_
    have R4 : RowsX H4 D rb h n (maskL (pls.take i) g) := ⟨⟨e4 _ _ R2.rows.top TD (fun ps z => by cases z), fun y hy => e4 _ _ (R2.rows.row y hy) (Trb y hy) (fun ps z => by cases z)⟩, R2.ne, R2.inj⟩
    have et4 := (keepLo _ (e2.trans e4)).it i _ hq
    tm_at "go"
    refine gIxT (SqT.of et4) (i := 0) rfl ?_
    refine gIxL (SqL.of R4.rows.top) (at_tab q1) ?_
    tm_at "go"
    refine gIxT (SqT.of et4) (i := 1) rfl ?_
    refine ⟨rb pls[i].1, _, _, pls[i].2, rfl, rfl, R4.rows.row _ q1, ix_tab q2, ?_⟩
    refine ⟨aj.stay _ _ _ (rs rb h) j4 ((Kept.refl _ _).mut ⟨_, q1, rfl⟩) fun b ⟨y, hy, eb⟩ => ⟨fun o eo => ?_, by rw [eb]; exact Frb y hy⟩, fun b o eo nt nps => ?_, R4.put q1 (g' := maskL (pls.take (i + 1)) g) ?_ fun z x hz nz _ => ?_, _, rfl⟩
    · rw [eb, R4.rows.row y hy] at eo
      exact ⟨_, (Option.some.inj eo).symm⟩
    · rw [upd_ne (fun eb => by rw [eb, N.fr _ q1] at eo; cases eo)]
      exact e4 _ _ (e2 b o eo nt nps) nt nps
    · unfold irow
      rw [tab_set]
      refine tab_congr fun x _ => ?_
      unfold maskL
      by_cases ex : x = pls[i].2
      · rw [if_pos ex, if_pos ((take_mem hq).mpr (.inr (Prod.ext rfl ex : (pls[i].1, x) = pls[i]))), ex]
      · rw [if_neg ex]
        by_cases m : (pls[i].1, x) ∈ pls.take i
        · rw [if_pos m, if_pos ((take_mem hq).mpr (.inl m))]
        · rw [if_neg m, if_neg (fun m2 => ((take_mem hq).mp m2).elim m fun e => ex (congrArg Prod.snd e))]
    · unfold maskL
      by_cases m : (z, x) ∈ pls.take i
      · rw [if_pos m, if_pos ((take_mem hq).mpr (.inl m))]
      · rw [if_neg m, if_neg (fun m2 => ((take_mem hq).mp m2).elim m fun e => nz (congrArg Prod.fst e))]
  · rintro σ H2 ⟨j2, e2, R2, v, rfl⟩
    rw [List.take_length] at R2
    tm_at "go"
    refine fun x dx hx hdx nx => mkField R2.rows z hb (fun x H4 s4 fx F4 => q x H4 (aj.stay _ _ _ (fun _ => False) j2 (Kept.of s4) fun b h => h.elim) (e2.trans (ExtS.of s4)) F4) hx hdx nx
def p_from (P : Program) (w : World) (K : PySem.W.Frag) (mg : Str → Option Value) (base : Heap) (ka : Nat) (b : Int) (Fp : Rl → Nat × Nat → List L → PS → PS) (M : Rl → Nat × Nat → List L → G2 → G2) : Pm := fun vs H Q => ∃ (p f t : Addr) (h w0 : Nat) (r : Rl) (ws : List L) (qq : Nat × Nat) (sp : Pm) (J : Nat → Hp → Prop) (T F : Addr → Prop) (g : G2), vs = [.ref p, .ref f, .ref t] ∧
  PlanAt K H p h w0 r ws ∧ (∀ H2, ExtS T H H2 → PlanAt K H2 p h w0 r ws) ∧ AskOk P w K mg base ka f sp ∧ AskJ J T F H ∧ H t = some (cT qq) ∧ (qq.1 < h ∧ qq.2 < w0) ∧
  (∀ pls : List (Nat × Nat), (∀ x, x ∈ pls ↔ Fp r (h, w0) ws (· = qq) x) → Answers sp J T pls g ∧ Bd b h w0 (maskL pls g) ∧ Bd 999999999999999 h w0 (maskL pls g) ∧ Bd 999999999999999 h w0 (M r (h, w0) ws (maskL pls g))) ∧
  ∀ (pls : List (Nat × Nat)) H', (∀ x, x ∈ pls ↔ Fp r (h, w0) ws (· = qq) x) → J pls.length H' → ExtS T H H' → Q (.int (M r (h, w0) ws (maskL pls g) qq.1 qq.2)) H'
theorem AskJ.nT {J : Nat → Hp → Prop} {T F : Addr → Prop} {H : Hp} (a : AskJ J T F H) {b : Addr} {o : HO} (e : H b = some o) (n : ∀ xs, o ≠ .lst xs) : ¬ T b := fun t => by
  obtain ⟨xs, e2⟩ := a.lst b t
  rw [e] at e2
  exact n xs (Option.some.inj e2)
theorem AskJ.nTn {J : Nat → Hp → Prop} {T F : Addr → Prop} {H : Hp} (a : AskJ J T F H) {b : Addr} (e : H b = none) : ¬ T b := fun t => by
  obtain ⟨xs, e2⟩ := a.lst b t
  rw [e] at e2
  cases e2
theorem ok_number_from (S : TX K mg) (ka : Nat) : OkF P w K mg base (ka+21) (He.ga K "number_from") (p_from P w K mg base ka 100000 hangM halvedM) := by
  refine okF (F_number_from S) sc_number_from (by tm_at "len") (fun _ _ _ _ _ _ us hl => match us, hl with | [_, _, _], _ => rfl) (fun cdv A outer s H vs Q E hr h => ?_)
  obtain ⟨p, f, t, h, n, r, ws, qq, sp, J, T, F, g, rfl, Pl, hP, ask, aj, ht, hq, hall, q⟩ := h
  refine ⟨_, (pss_one (ps_ret (pe_mt (pe_f (ok_halved S) (hr.mono (by omega)) rfl (glo_halved S) (pa_cons (pv 0) (pa_cons (pe_f (ok_asked_field S ka) (hr.mono (by omega)) rfl (glo_asked_field S) (pa_cons (pv 0) (pa_cons (pv 1) (pa_cons (pe_f (ok_hangs S) (hr.mono (by omega)) rfl (glo_hangs S) (pa_cons (pv 0) (pa_cons (pv 2) pa_nil))) pa_nil)))) pa_nil))) (cls_Field S) (me_Field_at S) (ok_Field_at S) (hr.mono (by omega)) (pa_cons (pv 2) pa_nil)))), ?_⟩
  tm_at "go"
  refine ⟨p, t, h, n, r, ws, qq, rfl, Pl, ht, hq, fun D H1 ta pls s1 hD nd hm lo => ?_⟩
  obtain ⟨an, b1, b2, b3⟩ := hall pls hm
  have aj1 := aj.same s1
  have z := Pl.sz
  have hin : ∀ x ∈ pls, x.1 < h ∧ x.2 < n := fun x hx => hg_in (c := (h, n)) (fun y (hy : y = qq) => by rw [hy]; exact hq) _ x ((hm x).mp hx)
  have hl : pls.length ≤ 4096 := grid_len nd fun x hx => by have := hin x hx; have := z.h2; have := z.w2; omega
  tm_at "go"
  refine ⟨p, f, D, h, n, r, ws, ta, pls, sp, J, T, F, g, rfl, Pl.same s1, ask, aj1, lo, aj.nTn hD, hin, hl, an, b2, fun x H2 j2 e2 F2 => ?_⟩
  have e02 : ExtS T H H2 := (ExtS.of s1).trans e2
  tm_at "go"
  refine ⟨p, x, h, n, r, ws, _, rfl, hP H2 e02, F2, b1, b3, fun x3 H3 s3 F3 => ?_⟩
  have F4 := F3
  obtain ⟨⟨dx, la, rl, hx3, _⟩, _, _⟩ := F4
  have ht3 := s3 _ _ (e02 _ _ ht (aj.nT ht fun xs z => by cases z) (fun ps z => by cases z))
  refine gMeE hx3 rfl ?_
  tm_at "go"
  refine ⟨x3, t, h, n, _, qq.1, qq.2, rfl, F3, ht3, hq.1, hq.2, ?_⟩
  exact q pls H3 hm (aj.stay _ _ _ (fun _ => False) j2 (Kept.of s3) fun b h => h.elim) (e02.trans (ExtS.of s3))
theorem ok_place_from (S : TX K mg) (ka : Nat) : OkF P w K mg base (ka+21) (He.ga K "place_from") (p_from P w K mg base ka 1000000000 needM backM) := by
  refine okF (F_place_from S) sc_place_from (by tm_at "len") (fun _ _ _ _ _ _ us hl => match us, hl with | [_, _, _], _ => rfl) (fun cdv A outer s H vs Q E hr h => ?_)
  obtain ⟨p, f, t, h, n, r, ws, qq, sp, J, T, F, g, rfl, Pl, hP, ask, aj, ht, hq, hall, q⟩ := h
  refine ⟨_, (pss_one (ps_ret (pe_mt (pe_f (ok_put_back S) (hr.mono (by omega)) rfl (glo_put_back S) (pa_cons (pv 0) (pa_cons (pe_f (ok_asked_field S ka) (hr.mono (by omega)) rfl (glo_asked_field S) (pa_cons (pv 0) (pa_cons (pv 1) (pa_cons (pe_f (ok_needs S) (hr.mono (by omega)) rfl (glo_needs S) (pa_cons (pv 0) (pa_cons (pv 2) pa_nil))) pa_nil)))) pa_nil))) (cls_Field S) (me_Field_at S) (ok_Field_at S) (hr.mono (by omega)) (pa_cons (pv 2) pa_nil)))), ?_⟩
  tm_at "go"
  refine ⟨p, t, h, n, r, ws, qq, rfl, Pl, ht, hq, fun D H1 ta pls s1 hD nd hm lo => ?_⟩
  obtain ⟨an, b1, b2, b3⟩ := hall pls hm
  have aj1 := aj.same s1
  have z := Pl.sz
  have hin : ∀ x ∈ pls, x.1 < h ∧ x.2 < n := fun x hx => nd_in (c := (h, n)) (fun y (hy : y = qq) => by rw [hy]; exact hq) _ x ((hm x).mp hx)
  have hl : pls.length ≤ 4096 := grid_len nd fun x hx => by have := hin x hx; have := z.h2; have := z.w2; omega
  tm_at "go"
  refine ⟨p, f, D, h, n, r, ws, ta, pls, sp, J, T, F, g, rfl, Pl.same s1, ask, aj1, lo, aj.nTn hD, hin, hl, an, b2, fun x H2 j2 e2 F2 => ?_⟩
  have e02 : ExtS T H H2 := (ExtS.of s1).trans e2
  tm_at "go"
  refine ⟨p, x, h, n, r, ws, _, rfl, hP H2 e02, F2, b1, b3, fun x3 H3 s3 F3 => ?_⟩
  have F4 := F3
  obtain ⟨⟨dx, la, rl, hx3, _⟩, _, _⟩ := F4
  have ht3 := s3 _ _ (e02 _ _ ht (aj.nT ht fun xs z => by cases z) (fun ps z => by cases z))
  refine gMeE hx3 rfl ?_
  tm_at "go"
  refine ⟨x3, t, h, n, _, qq.1, qq.2, rfl, F3, ht3, hq.1, hq.2, ?_⟩
  exact q pls H3 hm (aj.stay _ _ _ (fun _ => False) j2 (Kept.of s3) fun b h => h.elim) (e02.trans (ExtS.of s3))
def areaP (t l h w : Nat) : Part := ⟨0, 0, t, l, h, w⟩
def p_area_from (P : Program) (w : World) (K : PySem.W.Frag) (mg : Str → Option Value) (base : Heap) (ka : Nat) : Pm := fun vs H Q => ∃ (p f : Addr) (h w0 : Nat) (r : Rl) (ws : List L) (tp lf ah aw : Nat) (sp : Pm) (J : Nat → Hp → Prop) (T F : Addr → Prop) (g : G2), vs = [.ref p, .ref f, .int (tp : Nat), .int (lf : Nat), .int (ah : Nat), .int (aw : Nat)] ∧
  PlanAt K H p h w0 r ws ∧ (∀ H2, ExtS T H H2 → PlanAt K H2 p h w0 r ws) ∧ AskOk P w K mg base ka f sp ∧ AskJ J T F H ∧ (1 ≤ ah ∧ 1 ≤ aw ∧ tp + ah ≤ h ∧ lf + aw ≤ w0) ∧
  (∀ pls : List (Nat × Nat), (∀ x, x ∈ pls ↔ needM r (h, w0) ws (· ∈ (areaP tp lf ah aw).pl) x) → Answers sp J T pls g ∧ Bd 1000000000 h w0 (maskL pls g) ∧ Bd 999999999999999 h w0 (maskL pls g) ∧ Bd 999999999999999 h w0 (backM r (h, w0) ws (maskL pls g))) ∧
  ∀ (pls : List (Nat × Nat)) x H', (∀ x, x ∈ pls ↔ needM r (h, w0) ws (· ∈ (areaP tp lf ah aw).pl) x) → J pls.length H' → ExtS T H H' → FieldAt K H' x ah aw (fun y x => backM r (h, w0) ws (maskL pls g) (tp + y) (lf + x)) → Q (.ref x) H'
theorem ok_area_from (S : TX K mg) (ka : Nat) : OkF P w K mg base (ka+21) (He.ga K "area_from") (p_area_from P w K mg base ka) := by
  refine okF (F_area_from S) sc_area_from (by tm_at "len") (fun _ _ _ _ _ _ us hl => match us, hl with | [_, _, _, _, _, _], _ => rfl) (fun cdv A outer s H vs Q E hr h => ?_)
  obtain ⟨p, f, h, n, r, ws, tp, lf, ah, aw, sp, J, T, F, g, rfl, Pl, hP, ask, aj, ⟨a1, a2, a3, a4⟩, hall, q⟩ := h
  refine ⟨_, (pss_cons (ps_if (PW.pt (pw_or (pt_not (pt_val (pe_f (ok_is_whole S) (hr.mono (by omega)) rfl (glo_is_whole S) (pa_cons (pv 2) (pa_cons pe_int (pa_cons (pe_op op_sub (pe_mt0 (pv 0) (cls_Plan S) (me_Plan_height S) (ok_Plan_height S) (hr.mono (by omega))) pe_int) pa_nil)))))) (pw_or1 (pt_not (pt_val (pe_f (ok_is_whole S) (hr.mono (by omega)) rfl (glo_is_whole S) (pa_cons (pv 3) (pa_cons pe_int (pa_cons (pe_op op_sub (pe_mt0 (pv 0) (cls_Plan S) (me_Plan_width S) (ok_Plan_width S) (hr.mono (by omega))) pe_int) pa_nil))))))))) (pss_one ps_never) pss_nil)
    (pss_cons (ps_if (PW.pt (pw_or (pt_not (pt_val (pe_f (ok_is_whole S) (hr.mono (by omega)) rfl (glo_is_whole S) (pa_cons (pv 4) (pa_cons pe_int (pa_cons (pe_op op_sub (pe_mt0 (pv 0) (cls_Plan S) (me_Plan_height S) (ok_Plan_height S) (hr.mono (by omega))) (pv 2)) pa_nil)))))) (pw_or1 (pt_not (pt_val (pe_f (ok_is_whole S) (hr.mono (by omega)) rfl (glo_is_whole S) (pa_cons (pv 5) (pa_cons pe_int (pa_cons (pe_op op_sub (pe_mt0 (pv 0) (cls_Plan S) (me_Plan_width S) (ok_Plan_width S) (hr.mono (by omega))) (pv 3)) pa_nil))))))))) (pss_one ps_never) pss_nil)
    (pss_cons (ps_set (i := 6) sc_area_from.nd rfl (Or.inl rfl) (pe_lst pa_nil))
    (pss_cons (ps_for PassesOwn.never rfl (pi_range2 rfl (fr_range S) (pa_cons (pv 2) (pa_cons (pe_op op_add (pv 2) (pv 4)) pa_nil))) (pg_name (i := 7) sc_area_from.nd rfl (Or.inr rfl)) (pss_one (ps_expr (kBM (K := K) rfl PySem.F.plainAttrs_list PySem.F.slot_list_extend PySem.F.type_list_extend mt_extend (pv 6) (pa_cons (pe_lc (own := [("x", 10)]) (g := gName 10) (tt := tYes) rfl sc_area_from.nd (pi_range2 rfl (fr_range S) (pa_cons (pv 3) (pa_cons (pe_op op_add (pv 3) (pv 5)) pa_nil))) (blkOk_by (own := [("x", 10)]) (N := ["plan", "ask", "top", "left", "height", "width", "places", "y", "field", "row", "x"]) (sc := defScope s_area_from) (by decide +kernel)) (fun _ _ _ _ _ => (pg_name (i := 10) sc_area_from.nd rfl (Or.inl rfl))) (fun _ _ _ _ _ => pts_nil) (fun _ _ _ _ _ => (pe_tup (pa_cons (pv 7) (pa_cons (pv 10) pa_nil))))) pa_nil)))))
    (pss_cons (ps_set (i := 8) sc_area_from.nd rfl (Or.inl rfl) (pe_f (ok_put_back S) (hr.mono (by omega)) rfl (glo_put_back S) (pa_cons (pv 0) (pa_cons (pe_f (ok_asked_field S ka) (hr.mono (by omega)) rfl (glo_asked_field S) (pa_cons (pv 0) (pa_cons (pv 1) (pa_cons (pe_f (ok_needs_behind S) (hr.mono (by omega)) rfl (glo_needs_behind S) (pa_cons (pv 0) (pa_cons pe_int (pa_cons (pv 6) pa_nil)))) pa_nil)))) pa_nil))))
    (pss_one (ps_ret (pe_mk (mkr_Field S) (ok_Field_init S) (hr.mono (by omega)) rfl (glo_Field S) (pa_cons (pe_lc (own := [("row", 9)]) (g := gName 9) (tt := tYes) rfl sc_area_from.nd (kList (K := K) rfl (pe_slice (kSlL (K := K) rfl) (pe_mt0 (pv 8) (cls_Field S) (me_Field_rows S) (ok_Field_rows S) (hr.mono (by omega))) (po_some (pv 2)) (po_some (pe_op op_add (pv 2) (pv 4))))) (blkOk_by (own := [("row", 9)]) (N := ["plan", "ask", "top", "left", "height", "width", "places", "y", "field", "row", "x"]) (sc := defScope s_area_from) (by decide +kernel)) (fun _ _ _ _ _ => (pg_name (i := 9) sc_area_from.nd rfl (Or.inl rfl))) (fun _ _ _ _ _ => pts_nil) (fun _ _ _ _ _ => (pe_slice (kSlL (K := K) rfl) (pv 9) (po_some (pv 3)) (po_some (pe_op op_add (pv 3) (pv 5)))))) pa_nil))))))))), ?_⟩
  have z := Pl.sz
  have zh := z.h2
  have zw := z.w2
  have zz := z.hw
  have Pl0 := Pl
  obtain ⟨⟨dx, ru, ca, tc, hp, hr1, c⟩, _, _⟩ := Pl0
  tm_at "go"
  refine gMeE hp rfl ?_
  tm_at "go"
  refine ⟨p, h, n, r, ws, rfl, Pl, ?_⟩
  tm_at "go"
  refine ⟨_, _, _, rfl, by omega, by omega, ?_⟩
  tm_at "go"
  refine gMeE hp rfl ?_
  tm_at "go"
  refine ⟨p, h, n, r, ws, rfl, Pl, ?_⟩
  tm_at "go"
  refine ⟨_, _, _, rfl, by omega, by omega, ?_⟩
  tm_at "go"
  refine gMeE hp rfl ?_
  tm_at "go"
  refine ⟨p, h, n, r, ws, rfl, Pl, ?_⟩
  tm_at "go"
  refine ⟨_, _, _, rfl, by omega, by omega, ?_⟩
  tm_at "go"
  refine gMeE hp rfl ?_
  tm_at "go"
  refine ⟨p, h, n, r, ws, rfl, Pl, ?_⟩
  tm_at "go"
  refine ⟨_, _, _, rfl, by omega, by omega, ?_⟩
  tm_at "go"
  refine ⟨szL rfl, fun D hD => ?_⟩
  generalize hg : upd _ _ _ = H1
  obtain ⟨s1, eD⟩ := newF hg hD
  tm_at "go"
  refine gR2 (by omega) (by omega) ?_
  rw [show ((tp : Int) + (ah : Int) - (tp : Int)).toNat = ah by omega]
  refine forIt (wRange2 (m := ah)) (fun y σ H' => Same H H' ∧ (∃ tb, LOf H' D tb ((areaP tp lf ah aw).rows y) cT) ∧ ∃ v, σ = [some (.ref p), some (.ref f), some (.int tp), some (.int lf), some (.int ah), some (.int aw), some (.ref D), v, none, none, none])
    ⟨s1, ⟨fun _ => 0, by rw [show (areaP tp lf ah aw).rows 0 = [] from rfl]; exact LOf.nil eD⟩, none, rfl⟩ (fun _ _ _ _ _ => trivial) ?_ ?_
  · rintro y x σ H5 H6 hy ⟨s3, ⟨tb, l1⟩, v, rfl⟩ ⟨rfl, rfl⟩
    have lr : ((areaP tp lf ah aw).rows y).length ≤ 4096 := by
      rw [len_rows]
      have h1 : y * aw ≤ 64 * 64 := Nat.mul_le_mul (by omega) (by omega)
      exact Nat.le_trans h1 (by decide)
    tm_at "go"
    refine ⟨.inl ⟨rfl, _, SqL.of l1.top⟩, ?_⟩
    tm_at "go"
    refine gR2 (by omega) (by omega) ?_
    rw [show ((lf : Int) + (aw : Int) - (lf : Int)).toNat = aw by omega]
    intro D2 hD2
    refine lcIt (wRange2 (m := aw)) (fun j H' => ∃ tb, NewL H6 H' D2 j tb fun x => cT (tp + y, lf + x)) ⟨tb, NewL.nil hD2⟩ (fun _ _ _ _ => trivial) ?_ ?_
    · rintro j x H7 H8 hj ⟨tc, N⟩ ⟨rfl, rfl⟩
      tm_at "go"
      refine ⟨rfl, ?_⟩
      tm_at "go"
      refine ⟨szL rfl, fun t ht => ?_⟩
      refine ⟨_, get_new ht N.top, by rw [tab_len]; exact line_lt (by omega), _, N.push ht ?_ (Same.new ht)⟩
      rw [upd_same]
      rfl
    · rintro H7 ⟨tc, N⟩
      tm_at "go"
      have l2 : LOf H7 D2 tc (rowPl (tp + y) lf aw) cT := N.lof (by simp [rowPl]) fun k x e => by
        unfold rowPl at e
        have hk : k < aw := by simpa using (List.getElem?_eq_some_iff.mp e).1
        rw [List.getElem?_map, List.getElem?_range hk] at e
        cases e
        rfl
      refine lof_app (l1.same N.same) l2 (fun x => ⟨_, rfl⟩) (by simp only [rowPl, List.length_map, List.length_range]; omega) fun H8 h8 l3 => ?_
      rw [rows_succ]
      subst h8
      exact ⟨(s3.trans N.same).mut hD, ⟨_, l3⟩, _, rfl⟩
  rintro σ H2 ⟨s2, ⟨tb, l1⟩, v, rfl⟩
  have l1 : LOf H2 D tb (areaP tp lf ah aw).pl cT := l1
  have lq : (areaP tp lf ah aw).pl.length ≤ 4096 := by
    rw [len_pl]
    exact Nat.le_trans (Nat.mul_le_mul (show ah ≤ 64 by omega) (show aw ≤ 64 by omega)) (by decide)
  have inq : ∀ x ∈ (areaP tp lf ah aw).pl, x.1 < h ∧ x.2 < n := fun x hx => by
    have := mem_pl.mp hx
    unfold areaP at this
    dsimp only at this
    omega
  tm_at "go"
  refine ⟨p, D, h, n, r, ws, tb, _, rfl, Pl.same s2, l1, inq, lq, fun E H3 te pls s3 hE nd hm lo => ?_⟩
  obtain ⟨an, b1, b2, b3⟩ := hall pls hm
  have s03 := s2.trans s3
  have aj3 := aj.same s03
  have hin : ∀ x ∈ pls, x.1 < h ∧ x.2 < n := fun x hx => nd_in (c := (h, n)) inq _ x ((hm x).mp hx)
  have hl : pls.length ≤ 4096 := grid_len nd fun x hx => by have := hin x hx; omega
  tm_at "go"
  refine ⟨p, f, E, h, n, r, ws, te, pls, sp, J, T, F, g, rfl, Pl.same s03, ask, aj3, lo, aj.nTn (s2.free hE), hin, hl, an, b2, fun x H4 j4 e4 F4 => ?_⟩
  have e04 : ExtS T H H4 := (ExtS.of s03).trans e4
  tm_at "go"
  refine ⟨p, x, h, n, r, ws, _, rfl, hP H4 e04, F4, b1, b3, fun x5 H5 s5 F5 => ?_⟩
  have F6 := F5
  obtain ⟨⟨dx5, la, rl, hx5, _⟩, _, _⟩ := F6
  tm_at "go"
  refine gMeE hx5 rfl ?_
  tm_at "go"
  refine ⟨x5, h, n, _, rfl, F5, fun a ra H6 N => ?_⟩
  tm_at "go"
  refine gSlL (SqL.of N.top) fun S1 hS1 => ?_
  generalize hg7 : upd _ _ _ = H7
  obtain ⟨s7, eS⟩ := newF hg7 hS1
  rw [show (tp : Int) + (ah : Int) = ((tp + ah : Nat) : Int) by omega, cut_mid (by omega) a3, show tp + ah - tp = ah by omega] at eS
  have N7 := N.same' s7
  refine gL1 (SqL.of eS) ?_
  intro G hG
  refine lcIt (wTab (m := ah) (f := fun y => .ref (ra (tp + y)))) (fun i H' => ∃ rb, NewL H7 H' G i rb fun y => .lst (irow aw fun x => backM r (h, n) ws (maskL pls g) (tp + y) (lf + x))) ⟨ra, NewL.nil hG⟩ (fun i H' _ ⟨rb, z⟩ => SqL.of (z.same _ _ eS)) ?_ ?_
  · rintro i x H8 H9 hi ⟨rb, N9⟩ ⟨rfl, rfl⟩
    tm_at "go"
    refine ⟨rfl, ?_⟩
    tm_at "go"
    refine gSlL (SqL.of (N9.same _ _ (N7.it (tp + i) (by omega)))) fun t ht => ?_
    refine ⟨_, get_new ht N9.top, by rw [tab_len]; exact line_lt (by omega), _, N9.push ht ?_ (Same.new ht)⟩
    rw [upd_same, show (lf : Int) + (aw : Int) = ((lf + aw : Nat) : Int) by omega, show irow n (backM r (h, n) ws (maskL pls g) (tp + i)) = tab n fun x => .int (backM r (h, n) ws (maskL pls g) (tp + i) x) from rfl, cut_mid (by omega) a4, show lf + aw - lf = aw by omega]
  · rintro H8 ⟨rb, N9⟩
    tm_at "go"
    have szA : Sz ah aw := ⟨a1, by omega, a2, by omega, Nat.le_trans (Nat.mul_le_mul (show ah ≤ h by omega) (show aw ≤ n by omega)) zz⟩
    have s58 := s5.trans (N.same.trans (s7.trans N9.same))
    refine fun x dx => mkField (RowsX.of N9).rows szA (fun y x hy hx => b3 _ _ (by omega) (by omega)) fun x H9 s9 _ F9 => q pls x H9 hm ?_ (e04.trans (ExtS.of (s58.trans s9))) F9
    exact aj.stay _ _ _ (fun _ => False) j4 (Kept.of (s58.trans s9)) fun b h => h.elim
end
end Kp
local macro_rules | `(tactic| tm_at "go") => `(tactic| repeat (first | (with_reducible first | refine Kp.gSeq ?_ | refine Kp.gAsg ?_ | refine Kp.gNm ?_ | refine Kp.gOp ?_ | refine Kp.gC ?_ | refine Kp.gI0 ?_ | refine Kp.gCons0 ?_ | refine Kp.gNil0 ?_ | refine Kp.gTest ?_ | refine Kp.gBl ?_ | refine Kp.gIfS ?_ | refine Kp.gB ?_ | refine Kp.gRet ?_ | refine Kp.gNext ?_ | refine Kp.gFn ?_ | refine Kp.gMeth ?_ | refine Kp.gMk ?_ | refine Kp.gCB ?_ | refine Kp.gFld ?_ | refine Kp.gNot ?_ | refine Kp.gOr ?_ | refine Kp.gAnd ?_ | refine Kp.gChain ?_ | refine Kp.gUn ?_ | refine Kp.gU ?_ | refine Kp.gTupE ?_ | refine Kp.gLstE ?_ | refine Kp.gDrop ?_ | refine Kp.gBM ?_ | refine Kp.gSl ?_ | refine Kp.gNoP ?_ | refine Kp.gPart ?_ | refine Kp.gPartE ?_ | refine Kp.gFor ?_ | refine Kp.gLc ?_ | refine Kp.gYes ?_ | refine Kp.gSFld ?_ | refine Kp.gSb ?_ | refine Kp.gCs ?_ | refine Kp.gNl ?_ | refine Kp.gIL ?_ | refine Kp.gITup ?_ | refine Kp.gIR1 ?_ | refine Kp.gIR2 ?_ | refine Kp.gIE ?_ | refine Kp.gIZ ?_ | refine Kp.gIS ?_ | refine Kp.gAndV ?_ | refine Kp.gOrV ?_ | refine Kp.gNotV ?_ | refine Kp.gS1 ?_ | refine Kp.gDyn ?_ | refine Kp.gStp ?_ | refine Kp.gSlcE ?_ | refine Kp.gSs ?_ | refine Kp.gAsk ?_ | refine Kp.gRv ?_ | refine Kp.gRg1 ?_ | refine Kp.gRg2 ?_ | refine Kp.gD2 ?_ | refine Kp.gD4 ?_ | refine Kp.gM2 ?_ | refine Kp.gBreak ?_ | refine Kp.gCont ?_ | refine Kp.gRetN ?_) | ((with_reducible apply Kp.gVar); (focus exact rfl)) | ((with_reducible refine Kp.gIfT ?_ ?_); (focus exact rfl)) | ((with_reducible refine Kp.gIfF ?_ ?_); (focus exact rfl)) | ((with_reducible refine Kp.gEq ?_ ?_); (focus exact rfl)) | ((with_reducible refine Kp.gNe ?_ ?_); (focus exact rfl)) | ((with_reducible apply Kp.gIsi); (focus (first | exact Kp.Isi.ii | exact Kp.Isi.ib | exact Kp.Isi.ss | exact Kp.Isi.ll (by assumption) | exact Kp.Isi.tt (by assumption))))))
local macro_rules | `(tactic| tm_at "gi") => `(tactic| repeat (first | (with_reducible first | refine Kp.gAsg ?_ | refine Kp.gNm ?_ | refine Kp.gOp ?_ | refine Kp.gC ?_ | refine Kp.gI0 ?_ | refine Kp.gTest ?_ | refine Kp.gBl ?_ | refine Kp.gIfS ?_ | refine Kp.gAnd ?_ | refine Kp.gRet ?_ | refine Kp.gNext ?_ | refine Kp.gMeth ?_ | refine Kp.gFld ?_ | refine Kp.gCons0 ?_ | refine Kp.gNil0 ?_) | ((with_reducible apply Kp.gVar); (focus exact rfl)) | ((with_reducible refine Kp.gIfT ?_ ?_); (focus exact rfl)) | ((with_reducible refine Kp.gIfF ?_ ?_); (focus exact rfl)) | ((with_reducible refine Kp.gEq ?_ ?_); (focus exact rfl))))
/-! a call for which things that were made here stand in the base -/
namespace Kp
open PySem PySem.Spec PyProof.Rows L2
def delL (H : Hp) (D : List Addr) : Hp := fun a => if a ∈ D then none else H a
def putL (H2 : Hp) (D : List Addr) (H : Hp) : Hp := fun a => if a ∈ D then H a else H2 a
theorem delL_in {H : Hp} {D : List Addr} {a : Addr} (h : a ∈ D) : delL H D a = none := if_pos h
theorem delL_out {H : Hp} {D : List Addr} {a : Addr} (h : a ∉ D) : delL H D a = H a := if_neg h
theorem putL_in {H H2 : Hp} {D : List Addr} {a : Addr} (h : a ∈ D) : putL H2 D H a = H a := if_pos h
theorem putL_out {H H2 : Hp} {D : List Addr} {a : Addr} (h : a ∉ D) : putL H2 D H a = H2 a := if_neg h
/-- all of D is known by a look at its object alone -/
def Exts (H : Hp) (D : List Addr) : Prop := ∀ a ∈ D, ∃ φ, H a = some (.ext φ)
theorem Exts.out {H : Hp} {D : List Addr} (e : Exts H D) {b : Addr} {o : HO} (h : H b = some o) (n : ∀ φ, o ≠ .ext φ) : b ∉ D := fun z => by
  obtain ⟨φ, q⟩ := e b z
  rw [h] at q
  exact n φ (Option.some.inj q)
section
variable {X : Cx} {pins : List (Addr × Obj)} {σ : L2.St} {H : Hp} {s : Shared} {D : List Addr}
def baseOf (X : Cx) (s : Shared) (H : Hp) (D : List Addr) : Heap := PySem.W.hideAll s.heap ((List.range s.heap.objs.size).filter fun a => (delL H D a).isSome || decide (a ∈ frs X.stack))
theorem baseOf_get {b : Addr} {o : Obj} (e : s.heap.get? b = some o) (n : delL H D b = none) (f : b ∉ frs X.stack) : (baseOf X s H D).get? b = some o := PySem.W.hideAll_get _ e fun hm => by
  have q := (List.mem_filter.mp hm).2
  rw [n, decide_eq_false f] at q
  cases q
theorem of_baseOf {b : Addr} {o : Obj} (e : (baseOf X s H D).get? b = some o) : s.heap.get? b = some o ∧ delL H D b = none ∧ b ∉ frs X.stack := by
  have e' : s.heap.get? b = some o := PySem.W.of_hideAll _ e
  have hm : b ∉ (List.range s.heap.objs.size).filter fun a => (delL H D a).isSome || decide (a ∈ frs X.stack) := fun hm => by
    have z : (baseOf X s H D).get? b = none := PySem.W.hideAll_none _ hm
    rw [z] at e
    cases e
  refine ⟨e', ?_, fun f => ?_⟩
  · cases q : delL H D b with
    | none => rfl
    | some x => exact absurd (List.mem_filter.mpr ⟨List.mem_range.mpr (Heap.lt_size e'), by rw [q]; rfl⟩) hm
  · exact hm (List.mem_filter.mpr ⟨List.mem_range.mpr (Heap.lt_size e'), by rw [decide_eq_true f, Bool.or_true]⟩)
theorem base_up (I : L2.Inv X pins σ H s) : ∀ b o, X.base.get? b = some o → (baseOf X s H D).get? b = some o := fun b o e => by
  obtain ⟨h1, h2⟩ := I.bs b o e
  refine baseOf_get h1 (by unfold delL; split; rfl; exact h2) fun f => ?_
  have := (I.env0.funs.mem f).1
  rw [e] at this
  cases this
theorem mod_up {K : PySem.W.Frag} {mg : Str → Option Value} {base base' : Heap} (m : Mod K mg base) (k : ∀ b o, base.get? b = some o → base'.get? b = some o) : Mod K mg base' :=
  ⟨m.kin.keeps k, m.glob.keeps k, let ⟨mb, a, b⟩ := m.blt; ⟨mb, a.keeps k, b⟩, m.nolimit.keeps k⟩
theorem funs_up {h base base' : Heap} : ∀ {l : List Env}, h.FunFrames base l → (∀ b ∈ frs l, base'.get? b = none) → h.FunFrames base' l
  | [], _, _ => trivial
  | env :: rest, ⟨hk, ⟨L, o, hf, hn, ho, hd⟩, hr⟩, n => by
    have e : frs (env :: rest) = L :: frs rest := by unfold frs; rw [List.filterMap_cons, hf]
    refine ⟨hk, ⟨L, o, hf, n L (by rw [e]; exact List.mem_cons_self), ho, hd⟩, funs_up hr fun b hb => n b (by rw [e]; exact List.mem_cons_of_mem _ hb)⟩
theorem rebase (I : L2.Inv X pins σ H s) (hD : Exts H D) : Env0 X.prog X.w X.K X.mg (baseOf X s H D) X.A X.stack s (delL H D) := by
  have e0 := I.env0
  have out : ∀ {b : Addr} {o : HO}, H b = some o → (∀ φ, o ≠ .ext φ) → delL H D b = some o := fun {b o} h n => by rw [delL_out (hD.out h n)]; exact h
  refine ⟨e0.frames, mod_up e0.mod (base_up I), fun b o e => ⟨(of_baseOf e).1, (of_baseOf e).2.1⟩, Nat.le_of_eq (PySem.W.hideAll_size _ _), funs_up e0.funs fun b hb => ?_, fun b hb => ?_, fun a o e => ?_, e0.bare⟩
  · cases q : (baseOf X s H D).get? b with
    | none => rfl
    | some o => exact absurd hb (of_baseOf q).2.2
  · unfold delL
    split
    · rfl
    · exact e0.frf b hb
  · by_cases z : a ∈ D
    · rw [delL_in z] at e
      cases e
    · rw [delL_out z] at e
      exact (e0.hok a o e).stay (fun b u _ q => q) (fun b q => out q fun φ z => by cases z) fun b xs q => out q fun φ z => by cases z
/-- a call's end, D known again -/
theorem ce_back {Q : VK} {u : Value} {s' : Shared} (I : L2.Inv X pins σ H s) (hD : Exts H D) (c : CE X.stack X.prog X.w (delL H D) s (fun v H2 => (∀ a ∈ D, H2 a = none) → Q v (putL H2 D H)) u s') : CE X.stack X.prog X.w H s Q u s' := by
  obtain ⟨v, H2, os, bare, un, hok, r, q⟩ := c
  have at_ : ∀ a ∈ D, ∃ o φ, s.heap.get? a = some o ∧ H a = some (.ext φ) ∧ φ s.heap ∧ s'.heap.get? a = some o ∧ ∀ h1 h2 : Heap, φ h1 → (∀ o, h1.get? a = some o → h2.get? a = some o) → φ h2 := fun a ha => by
    obtain ⟨φ, e⟩ := hD a ha
    obtain ⟨p1, ⟨o, p2⟩, p3⟩ := I.hok a _ e
    refine ⟨o, φ, p2, e, p1, un.keep a o p2 (delL_in ha) (fun f => ?_) (by simp), p3⟩
    have := I.env0.frf a f
    rw [e] at this
    cases this
  have n2 : ∀ a ∈ D, H2 a = none := fun a ha => let ⟨o, φ, p2, _⟩ := at_ a ha; un.free a o p2 (delL_in ha) (by simp)
  have n1 : ∀ {b : Addr} {o : HO}, H2 b = some o → b ∉ D := fun {b o} e z => by rw [n2 b z] at e; cases e
  have dn : ∀ {b : Addr}, H b = none → delL H D b = none ∧ b ∉ D := fun {b} e => by
    refine ⟨?_, fun z => ?_⟩
    · unfold delL; split; rfl; exact e
    · obtain ⟨φ, q⟩ := hD b z
      rw [e] at q
      cases q
  have dd : ∀ {b : Addr} {o : HO}, H b = some o → (∀ φ, o ≠ .ext φ) → delL H D b = some o ∧ b ∉ D := fun {b o} h n => ⟨by rw [delL_out (hD.out h n)]; exact h, hD.out h n⟩
  refine ⟨v, putL H2 D H, os, bare, ⟨fun b o e n => un.keep b o e (dn n).1, fun b o e n => un.slot b o e (dn n).1, fun b o e n x => ?_, un.there, fun b xs e => ?_, fun b o u e => ?_, fun b ps e => ?_⟩, fun a o e => ?_, r, q n2⟩
  · rw [putL_out (dn n).2]; exact un.free b o e (dn n).1 x
  · obtain ⟨a1, a2⟩ := dd e fun φ z => by cases z
    rw [putL_out a2]; exact un.tups b xs a1
  · obtain ⟨a1, a2⟩ := dd e fun φ z => by cases z
    rw [putL_out a2]; exact un.frzs b o u a1
  · obtain ⟨a1, a2⟩ := dd e fun φ z => by cases z
    rw [putL_out a2]; exact un.tbls b ps a1
  · by_cases z : a ∈ D
    · obtain ⟨ob, φ, p2, p4, p5, p6, p7⟩ := at_ a z
      rw [putL_in z, p4] at e
      cases e
      exact ⟨p7 _ _ p5 (fun o e => by rw [p2] at e; cases e; exact p6), ⟨ob, p6⟩, p7⟩
    · rw [putL_out z] at e
      exact (hok a o e).stay (fun b u _ q => q) (fun b q => by rw [putL_out (n1 q)]; exact q) fun b xs q => by rw [putL_out (n1 q)]; exact q
end
/-- f(..), D told to the callee as part of its base -/
def tFR (K : PySem.W.Frag) (mg : Str → Option Value) (base : Heap) (p : Heap → Pm) (t : TA) : TE := fun σ H Q => t σ H fun vs H1 => ∃ D : List Addr, Exts H1 D ∧
  ∀ base' : Heap, Mod K mg base' → (∀ b o, base.get? b = some o → base'.get? b = some o) → (∀ a ∈ D, ∀ φ, H1 a = some (.ext φ) → φ base') → (∀ b o, delL H1 D b = some o → base'.get? b = none) → p base' vs (delL H1 D) fun v H2 => (∀ a ∈ D, H2 a = none) → Q v (putL H2 D H1)
theorem gFR {K : PySem.W.Frag} {mg : Str → Option Value} {base : Heap} {p : Heap → Pm} {t : TA} {σ : L2.St} {H : Hp} {Q : VK} (h : t σ H fun vs H1 => ∃ D : List Addr, Exts H1 D ∧
  ∀ base' : Heap, Mod K mg base' → (∀ b o, base.get? b = some o → base'.get? b = some o) → (∀ a ∈ D, ∀ φ, H1 a = some (.ext φ) → φ base') → (∀ b o, delL H1 D b = some o → base'.get? b = none) → p base' vs (delL H1 D) fun v H2 => (∀ a ∈ D, H2 a = none) → Q v (putL H2 D H1)) : tFR K mg base p t σ H Q := h
theorem pe_fr {X : Cx} {k : Nat} {f : Addr} {p : Heap → Pm} {x : Str} {ps0 pos : Pos} {e : Expr} {es : List Expr} {t : TA} (F : ∀ base', OkF X.prog X.w X.K X.mg base' k f (p base')) (hr : Room k X.A) (hg : Gl X x) (hm : X.mg x = some (.ref f)) (ha : PA X (e :: es) t)
    (hdb : (x == ("__debug__" : Str)) = false := by decide) (he : starEach (e :: es) X.env = (false, eval e X.env) :: starEach es X.env := by rfl) (hpl : (backTo pos (starEach es X.env)).any (·.1) = false := by rfl) :
    PE X (.Call (.Name x ps0) (e :: es) [] pos) (tFR X.K X.mg X.base p t) := by
  have hk : PySem.W.keepIn X.K (.ref f) = true := let ⟨_, _, _, kp, _⟩ := (F X.base).ex; kp
  refine ⟨fun pins s σ H Q I h => wpAny_Call_Name_kw (ld_glob I hg hm (PySem.W.callWith_K (h₀ := X.base) I.ok.mod.kin hk (thn (ha.run pos pins s σ H _ I h) fun us s2 ⟨vs, H2, I2, r, D, hD, q⟩ => ⟨I2.kIn, ?_⟩) he hpl) hdb)⟩
  have q2 := q (baseOf X s2 H2 D) (mod_up I2.ok.mod (base_up I2)) (base_up I2) fun a ha φ e => by
    obtain ⟨p1, ⟨o, p2⟩, p3⟩ := I2.hok a _ e
    refine p3 _ _ p1 fun ob eo => baseOf_get eo (delL_in ha) fun f => ?_
    have := I2.env0.frf a f
    rw [e] at this
    cases this
  replace q2 := q2 fun b o e => by
    cases z : (baseOf X s2 H2 D).get? b with
    | none => rfl
    | some u =>
      have := (of_baseOf z).2.1
      rw [e] at this
      cases this
  obtain ⟨fd, ps, FO, _, b⟩ := (F (baseOf X s2 H2 D)).ex
  have hl : us.length = ps.length := by rw [← r.length]; exact FO.len _ _ _ E0 q2
  have bt := b s2 us I2.kIn (by rw [List.append_nil]; exact hl)
  rw [List.append_nil] at bt
  refine wpAny_call (codeAny_mono (FO.run X.A X.stack s2 (delL H2 D) ⟨us, []⟩ us vs _ E0 hr (rebase I2 hD) bt r q2) fun r s' hq => ?_)
  cases r with
  | error e =>
    exact pass0 pins σ H2 s2 e s' I2 (by
      have z : CX0 X.stack (delL H2 D) s2 E0 e s' := hq
      exact z.elim)
  | ok fl =>
    cases fl with
    | ret u => exact I2.after (ce_back I2 hD hq)
    | next => exact False.elim hq
    | brk => exact False.elim hq
    | cont => exact False.elim hq
end Kp
/-! a nested def made: its code object's own table is told too -/
namespace Kp
open PySem PySem.Spec PyProof.Rows L2 LamX NdefX
section
variable {M : Model} {A : Around} {E : Value → Shared → Prop} {s : Shared} {name qual : Str} {params : Arguments} {body : List Stmt} {scope : Scope} {env : Env} {c P : Addr} {ps : Array Value} {pos : Pos} {line : Nat} {mg : Str → Option Value} {clos : List (Str × Addr)} {Q : Value → Shared → Prop}
theorem make_clo (hcl : closureFor scope env = pure clos) (hge0 : env.globals = mainGlobals) (hg : s.heap.Ns mainGlobals mg) (hcode : env.code = .ref c) (C : PySem.W.CodeHd s.heap c P) (hP : s.heap.get? P = some (PySem.W.tabObj ps)) (ht : TriplesOk ps.toList) (hnf : codeAmong pos ps.toList = none) (hgP : mainGlobals ≠ P) (hb : s.heap.BuiltinsAt mg P) (hne : clos ≠ [])
    (h : ∀ (c' P2 : Addr) (ctv doc : Value) (h' : Heap) (tk : Tok), Heap.ExtBut P s.heap h' → s.heap.objs.size ≤ c' → c' < h'.objs.size → h'.CodeRec (.ref c') qual → h'.get? P = some (PySem.W.tabObj (ps ++ #[rawInt pos.line, rawInt pos.col, .ref c'])) → s.heap.objs.size ≤ P2 → PySem.W.CodeHd h' c' P2 → h'.get? P2 = some (PySem.W.tabObj #[]) →
      Q (.ref h'.objs.size) { s with heap := h'.push (PySem.W.fnMade name qual params body scope clos doc ((mg "__name__").getD .none) c' ctv), toks := tk }) :
    wpAny M A (makeFunction name qual params (.stmts body) scope env [] [] [] pos line) Q E s := by
  rw [makeFunction_eq]; simp only [List.zip_nil_right, List.filterMap_nil, List.isEmpty_nil, if_true, pure_bind]
  obtain ⟨bm, ob, hbm, n0, _, nP, bo, bc, bd, bdat⟩ := hb
  unfold makeTail; rw [hcl, hge0]; refine wpAny_bind (wpAny_pure ?_)
  cases clos with
  | nil => exact absurd rfl hne
  | cons q r =>
    simp only [List.isEmpty_cons, Bool.false_eq_true, if_false]; refine wpAny_bind (wpAny_newTextTuple ?_)
    refine wpAny_bind (wpAny_functionCodeX hcode ((C.keeps fun b o e => Heap.get?_push_of_some _ e).code (Heap.get?_push_of_some _ hP) ht) ((C.keeps fun b o e => Heap.get?_push_of_some _ e).tab (Heap.get?_push_of_some _ hP)) hnf fun c' h' tk hx hge hlt _ hrec htb ⟨P2, hP2, hc2, ht2⟩ => ?_)
    have g2 := (hg.push _).extBut hx hgP
    have hx2 : Heap.ExtBut P s.heap h' := fun b o hb' e => hx b o hb' (Heap.get?_push_of_some _ e)
    have up : ∀ {a : Nat}, (s.heap.push { cls := .type "tuple", dict := none, data := .seq (#[] : Array Value) }).objs.size ≤ a → s.heap.objs.size ≤ a := fun {a} z => Nat.le_trans (by rw [Heap.size_push]; omega) z
    have l1 : s.heap.objs.size ≤ c' := Nat.le_trans (by rw [Heap.size_push]; omega) hge
    have l2 : s.heap.objs.size ≤ P2 := Nat.le_trans (by rw [Heap.size_push]; omega) hP2
    refine wpAny_bind (wpAny_builtinsFor g2 hbm n0 (hx2 _ _ nP bo) bc bd bdat ?_); refine wpAny_bind (wpAny_nsGet g2 ?_)
    cases hdoc : docOf body with
    | none => exact wpAny_bind (wpAny_pure (wpAny_newObj_type (h c' P2 _ .none h' tk hx2 l1 hlt hrec htb.2 l2 (PySem.W.CodeHd.of hc2 ht2) ht2.2) (by size_fits)))
    | some t => exact wpAny_bind (wpAny_mkText (wpAny_newObj_type (h c' P2 _ _ h' _ hx2 l1 hlt hrec htb.2 l2 (PySem.W.CodeHd.of hc2 ht2) ht2.2) (by size_fits)))
end
/-- the code object at c: its name, its table -/
def CodeX (c : Addr) (q : Str) (P : Addr) : HO := .ext fun h => (∃ (oc : Obj) (vs : Array Value) (t : Tok), h.get? c = some oc ∧ oc.data = .fields vs ∧ vs[1]? = some (.str q t)) ∧ PySem.W.CodeHd h c P
theorem codeX_ok {P : Program} {w : World} {H : Hp} {h : Heap} {c P2 : Addr} {q : Str} (h1 : ∃ (oc : Obj) (vs : Array Value) (t : Tok), h.get? c = some oc ∧ oc.data = .fields vs ∧ vs[1]? = some (.str q t)) (h2 : PySem.W.CodeHd h c P2) : ObjOk P w H h c (CodeX c q P2) := by
  obtain ⟨oc, vs, t, e1, e2, e3⟩ := id h1
  refine ⟨⟨h1, h2⟩, ⟨oc, e1⟩, fun g1 g2 ⟨⟨oc, vs, t, a, b, d⟩, o, ws, file, tf, flags, tg, inF, text, tt, e, r⟩ st => ⟨⟨oc, vs, t, st _ a, b, d⟩, o, ws, file, tf, flags, tg, inF, text, tt, st _ e, r⟩⟩
/-- the table at P of the maker's code object: what it tells has a table of its own, for lambdas -/
def TI (P : Addr) (qA qL : Str) (H : Hp) : Prop := ∃ ps : Array Value, H P = some (.tbl ps) ∧ TriplesOk ps.toList ∧ ∀ (pos : Pos) (cv : Value), codeAmong pos ps.toList = some cv → ∃ c P2, cv = .ref c ∧ P2 ≠ P ∧ H c = some (CodeX c qA P2) ∧ TabS H P2 qL
theorem TI.ext {P : Addr} {qA qL : Str} {H H' : Hp} (t : TI P qA qL H) (e : ∀ b o, H b = some o → H' b = some o) : TI P qA qL H' := by
  obtain ⟨ps, h1, h2, h3⟩ := t
  refine ⟨ps, e _ _ h1, h2, fun pos cv hc => ?_⟩
  obtain ⟨c, P2, e1, n, e2, e3⟩ := h3 pos cv hc
  exact ⟨c, P2, e1, n, e _ _ e2, e3.ext e⟩
section
variable {X : Cx} {pins : List (Addr × Obj)} {σ : L2.St} {H : Hp} {s : Shared}
/-- what no one tracks yet and the entry did not have -/
theorem inv_track {a : Addr} {o : HO} (I : L2.Inv X pins σ H s) (hn : H a = none) (h0 : X.s_0.heap.get? a = none) (hl : a ≠ X.env.locals) (hc : ∀ x c, X.env.cells.lookup x = some c → c ≠ a) (hp : ∀ p ∈ X.pn ++ pins, p.1 ≠ a) (ok : ObjOk X.prog X.w (upd H a o) s.heap a o) : L2.Inv X pins σ (upd H a o) s := by
  have ne : ∀ {b : Addr} {u : HO}, H b = some u → b ≠ a := fun e => ne_of_none e hn
  have n0 : ∀ {b : Addr} {u : Obj}, X.s_0.heap.get? b = some u → b ≠ a := fun {b u} e z => by rw [z, h0] at e; cases e
  refine ⟨I.ok, I.os, I.bare, ⟨I.base.keep, I.base.slot, fun b u e n x => ?_, I.base.there, fun b xs e => ?_, fun b u v e => ?_, fun b ps e => ?_⟩, I.loc, I.cell, ?_, fun x c e => ?_, fun p hm => ?_, fun b u e => ?_, I.len⟩
  · rw [upd_ne (n0 e)]; exact I.base.free b u e n x
  · have q := I.base.tups b xs e
    rw [upd_ne (ne q)]; exact q
  · have q := I.base.frzs b u v e
    rw [upd_ne (ne q)]; exact q
  · obtain ⟨m, q⟩ := I.base.tbls b ps e
    exact ⟨m, by rw [upd_ne (ne q)]; exact q⟩
  · rw [upd_ne hl.symm]; exact I.free
  · rw [upd_ne (hc x c e)]; exact I.freeC x c e
  · obtain ⟨a1, a2, a3⟩ := I.pin p hm
    exact ⟨a1, by rw [upd_ne (hp p hm)]; exact a2, a3⟩
  · by_cases z : b = a
    · rw [z, upd_same] at e
      cases e
      rw [z]
      exact ok
    · rw [upd_ne z] at e
      exact (I.hok b u e).stay (fun c v _ q => q) (fun c q => by rw [upd_ne (ne q)]; exact q) fun c xs q => by rw [upd_ne (ne q)]; exact q
theorem inv_new {a : Addr} {o : HO} {s1 : Shared} {H1 : Hp} (I : L2.Inv X pins σ H s) (I1 : L2.Inv X pins σ H1 s1) (hge : s.heap.objs.size ≤ a) (hn : H1 a = none) (ok : ObjOk X.prog X.w (upd H1 a o) s1.heap a o) : L2.Inv X pins σ (upd H1 a o) s1 := by
  have lt : ∀ {b : Addr} {u : Obj}, s.heap.get? b = some u → b ≠ a := fun {b u} e z => by
    rw [z] at e
    exact Nat.lt_irrefl _ (Nat.lt_of_lt_of_le (Heap.lt_size e) hge)
  refine inv_track I1 hn ?_ (fun z => ?_) (fun x c e z => ?_) (fun p hm z => ?_) ok
  · cases e : X.s_0.heap.get? a with
    | none => rfl
    | some u => exact absurd (Nat.lt_of_lt_of_le (Heap.lt_size e) (Nat.le_trans I.sz hge)) (Nat.lt_irrefl _)
  · exact Nat.lt_irrefl _ (Nat.lt_of_lt_of_le (z ▸ I.lt) hge)
  · obtain ⟨v, ob, e1, _⟩ := I.cell x c e
    exact lt e1 z
  · obtain ⟨a1, _⟩ := I.pin p hm
    exact lt a1 z
theorem ndef_x {qA qL : Str} {c P : Addr} {name : Str} {params : Arguments} {body : List Stmt} {scope : Scope} {pos : Pos} {E : Value → Shared → Prop} {Q : Value → Shared → Prop} (I : L2.Inv X pins σ H s) (TB : TabB X.base X.mg c P) (hcode : X.env.code = .ref c) (hq : qA = X.env.qual ++ name)
    (hT : TI P qA qL H) (hfree : ∀ y ∈ scope.names, y.2 = .free → ∃ c, X.env.cells.lookup y.1 = some c) (hne : cloFrom X.env.cells scope.names [] ≠ [])
    (h : ∀ (f c' P2 : Addr) (H1 : Hp) (s' : Shared), L2.Inv X pins σ H1 s' → ExtN H H1 → (∀ b, H1 b = Option.none → H b = Option.none) → TI P qA qL H1 → H f = none → H1 f = some (FnO f ⟨name, X.env.qual ++ name, params, body, scope, cloFrom X.env.cells scope.names [], c'⟩) → H1 c' = some (CodeX c' qA P2) → P2 ≠ P → TabS H1 P2 qL → Q (.ref f) s') :
    wpAny (model X.prog X.w) X.A (makeFunction name (X.env.qual ++ name) params (.stmts body) scope X.env [] [] [] pos pos.line) Q E s := by
  obtain ⟨ps, hP, ht, ha⟩ := hT
  have bP : s.heap.BuiltinsAt X.mg P := TB.bm.keeps I.bk
  have hP' : s.heap.get? P = some (PySem.W.tabObj ps) := I.hok P _ hP
  cases hc : codeAmong pos ps.toList with
  | none =>
    refine make_clo (mg := X.mg) (c := c) (P := P) (ps := ps) (closure_ok hfree) I.ok.glob (I.mod.glob.keeps I.bk) hcode (TB.code.keeps I.bk) hP' ht hc TB.gP bP hne fun c' P2 ctv doc h' tk hx hge hlt hrec htb hge2 hhd ht2 => ?_
    obtain ⟨c2, oc, vs, t, e2, hoc, hd, hv⟩ := hrec
    cases e2
    have nC : H c' = none := I.hok.fresh hge
    have nP2 : H P2 = none := I.hok.fresh hge2
    have cP2 : c' ≠ P2 := by
      obtain ⟨o, ws, file, tf, flags, tg, inF, text, tt, e, r1, r2, r3, r4, r5, r6, r7, r8, r9⟩ := hhd
      exact r9
    have PP2 : P ≠ P2 := ne_of_none hP nP2
    have I1 := inv_table (t' := tk) (q := qA) (more := #[rawInt pos.line, rawInt pos.col, .ref c']) (h' := h') I hP (fun b o hb e => hx b o hb e) htb hge ⟨oc, vs, t, hoc, hd, by rw [hq]; exact hv⟩
    have I2 := I1.write (x := c') (e := c') (o := CodeX c' qA P2) (h' := h') (t' := tk) (by rw [upd_same]; exact True.intro) (.inl rfl) (fun b u _ e => e) ⟨oc, hoc⟩ (codeX_ok ⟨oc, vs, t, hoc, hd, by rw [hq]; exact hv⟩ hhd)
    have n2 : upd (upd (upd H P (.tbl (ps ++ #[rawInt pos.line, rawInt pos.col, .ref c']))) c' (CodeO c' qA)) c' (CodeX c' qA P2) P2 = none := by rw [upd_ne cP2.symm, upd_ne cP2.symm, upd_ne PP2.symm]; exact nP2
    have I3 := inv_new (o := .tbl #[]) I I2 hge2 n2 ht2
    have nF := I3.hok.fresh (Nat.le_refl _)
    have I4 := inv_fn (F := ⟨name, X.env.qual ++ name, params, body, scope, cloFrom X.env.cells scope.names [], c'⟩) (t' := tk) (doc := doc) (pm := (X.mg "__name__").getD .none) (ctv := ctv) I3 rfl
    have at_ : ∀ b o, H b = some o → (∀ qs, o ≠ .tbl qs) → upd (upd (upd (upd H P (.tbl (ps ++ #[rawInt pos.line, rawInt pos.col, .ref c']))) c' (CodeO c' qA)) c' (CodeX c' qA P2)) P2 (.tbl #[]) b = some o := fun b o e n => by
      rw [upd_ne (ne_of_none e nP2), upd_ne (ne_of_none e nC), upd_ne (ne_of_none e nC), upd_ne (fun z => n ps (Option.some.inj (e.symm.trans (by rw [z]; exact hP))))]
      exact e
    have tS : ∀ {P3 : Addr}, P3 ≠ P → TabS H P3 qL → TabS (upd (upd (upd (upd H P (.tbl (ps ++ #[rawInt pos.line, rawInt pos.col, .ref c']))) c' (CodeO c' qA)) c' (CodeX c' qA P2)) P2 (.tbl #[])) P3 qL := fun {P3} n3 ⟨qs, a1, a2, a3⟩ => by
      refine ⟨qs, ?_, a2, fun p' cv hcv => ?_⟩
      · rw [upd_ne (ne_of_none a1 nP2), upd_ne (ne_of_none a1 nC), upd_ne (ne_of_none a1 nC), upd_ne n3]
        exact a1
      · obtain ⟨c0, e1, e2⟩ := a3 p' cv hcv
        exact ⟨c0, e1, at_ _ _ e2 codeO_ne⟩
    have cx : upd (upd (upd (upd H P (.tbl (ps ++ #[rawInt pos.line, rawInt pos.col, .ref c']))) c' (CodeO c' qA)) c' (CodeX c' qA P2)) P2 (.tbl #[]) c' = some (CodeX c' qA P2) := by rw [upd_ne cP2, upd_same]
    have t2 : TabS (upd (upd (upd (upd H P (.tbl (ps ++ #[rawInt pos.line, rawInt pos.col, .ref c']))) c' (CodeO c' qA)) c' (CodeX c' qA P2)) P2 (.tbl #[])) P2 qL := TabS.nil upd_same
    have Pat : upd (upd (upd (upd H P (.tbl (ps ++ #[rawInt pos.line, rawInt pos.col, .ref c']))) c' (CodeO c' qA)) c' (CodeX c' qA P2)) P2 (.tbl #[]) P = some (.tbl (ps ++ #[rawInt pos.line, rawInt pos.col, .ref c'])) := by rw [upd_ne PP2, upd_ne (ne_of_none hP nC), upd_ne (ne_of_none hP nC), upd_same]
    have eL : (ps ++ #[rawInt pos.line, rawInt pos.col, .ref c']).toList = ps.toList ++ [rawInt pos.line, rawInt pos.col, .ref c'] := by simp
    have T3 : TI P qA qL (upd (upd (upd (upd H P (.tbl (ps ++ #[rawInt pos.line, rawInt pos.col, .ref c']))) c' (CodeO c' qA)) c' (CodeX c' qA P2)) P2 (.tbl #[])) := by
      refine ⟨_, Pat, by rw [eL]; exact PySem.TriplesOk_snoc _ _ _ _ ht, fun p' cv hcv => ?_⟩
      rw [eL] at hcv
      rcases among_app _ ht hcv with z | z
      · obtain ⟨c0, P3, e1, n3, e2, e3⟩ := ha p' cv z
        exact ⟨c0, P3, e1, n3, at_ _ _ e2 (fun qs z => by cases z), tS n3 e3⟩
      · exact ⟨c', P2, z, PP2.symm, cx, t2⟩
    have nn : ∀ b, upd (upd (upd (upd H P (.tbl (ps ++ #[rawInt pos.line, rawInt pos.col, .ref c']))) c' (CodeO c' qA)) c' (CodeX c' qA P2)) P2 (.tbl #[]) b = none → H b = none := fun b e => upd_none (upd_none (upd_none (upd_none e)))
    refine h h'.objs.size c' P2 _ _ I4 (fun b o e n => ?_) (fun b e => nn b (upd_none e)) (T3.ext fun b o e => ?_) (I.hok.fresh (Nat.le_trans hge (Nat.le_of_lt hlt))) upd_same ?_ PP2.symm (t2.ext fun b o e => ?_)
    · have e1 := at_ b o e n
      exact (upd_ne (ne_of_none e1 nF)).trans e1
    · exact (upd_ne (ne_of_none e nF)).trans e
    · exact (upd_ne (ne_of_none cx nF)).trans cx
    · exact (upd_ne (ne_of_none e nF)).trans e
  | some cv =>
    obtain ⟨c', P2, e, n2, hco, t2⟩ := ha pos cv hc
    subst e
    refine PySem.W.makeFunction_hit (mg := X.mg) (c := c) (P := P) (ps := ps) (closure_ok hfree) I.ok.glob (I.mod.glob.keeps I.bk) hcode (TB.code.keeps I.bk) hP' ht hc bP fun ctv doc h' tk hx hsz => ?_
    have I1 : L2.Inv X pins σ H { s with heap := h', toks := tk } := I.kept hx
    have nF : H h'.objs.size = none := I1.hok.fresh (Nat.le_refl _)
    have I2 := inv_fn (F := ⟨name, X.env.qual ++ name, params, body, scope, cloFrom X.env.cells scope.names [], c'⟩) (t' := tk) (doc := doc) (pm := (X.mg "__name__").getD .none) (ctv := ctv) I1 rfl
    have T : TI P qA qL H := ⟨ps, hP, ht, ha⟩
    have up : ∀ b o, H b = some o → upd H h'.objs.size (FnO h'.objs.size ⟨name, X.env.qual ++ name, params, body, scope, cloFrom X.env.cells scope.names [], c'⟩) b = some o := fun b o e => (upd_ne (ne_of_none e nF)).trans e
    exact h h'.objs.size c' P2 _ _ I2 (fun b o e _ => up b o e) (fun b e => upd_none e) (T.ext up) nF upd_same (up _ _ hco) n2 (t2.ext up)
end
end Kp
/-! _law_asked: it makes the answerer and gives it back -/
namespace Kp
open PySem PySem.Spec PyProof.Rows L2 LamX NdefX
/-- a cell that holds v -/
def CellO (c : Addr) (v : V) : HO := .ext fun h => ∃ u, L2.RelV v u ∧ h.IsCell c (some u)
theorem cellO_ok {P : Program} {w : World} {H : Hp} {h : Heap} {c : Addr} {v : V} {u : Value} (r : L2.RelV v u) (hc : h.IsCell c (some u)) : ObjOk P w H h c (CellO c v) := by
  obtain ⟨o, ho, hd⟩ := id hc
  exact ⟨⟨u, r, hc⟩, ⟨o, ho⟩, fun g1 g2 ⟨u, r, o, a, b⟩ st => ⟨u, r, o, st _ a, b⟩⟩
theorem un_add {fs ex : List Addr} {H H' : Hp} {h h' : Heap} {a : Addr} {o : HO} (u : Un fs ex H H' h h') (n : H' a = none) (nh : h.get? a = none) : Un fs ex H (upd H' a o) h h' := by
  refine ⟨u.keep, u.slot, fun b ob e m x => ?_, u.there, fun b xs e => ?_, fun b ob v e => ?_, fun b ps e => ?_⟩
  · rw [upd_ne fun z => by rw [z, nh] at e; cases e]
    exact u.free b ob e m x
  · have q := u.tups b xs e
    exact (upd_ne (ne_of_none q n)).trans q
  · have q := u.frzs b ob v e
    exact (upd_ne (ne_of_none q n)).trans q
  · obtain ⟨m, q⟩ := u.tbls b ps e
    exact ⟨m, (upd_ne (ne_of_none q n)).trans q⟩
theorem hok_add {P : Program} {w : World} {H : Hp} {h : Heap} {a : Addr} {o : HO} (ok : HOk P w H h) (n : H a = none) (k : ObjOk P w (upd H a o) h a o) : HOk P w (upd H a o) h := fun b u e => by
  by_cases z : b = a
  · rw [z, upd_same] at e
    cases e
    rw [z]
    exact k
  · rw [upd_ne z] at e
    exact (ok b u e).stay (fun c v _ q => q) (fun c q => (upd_ne (ne_of_none q n)).trans q) fun c xs q => (upd_ne (ne_of_none q n)).trans q
def s_ans : Stmt := match defBody s_law_asked with
  | s :: _ => s
  | [] => s_law_asked
abbrev qAns : Str := "_law_asked.<locals>._law_answered"
abbrev qLam : Str := "_law_asked.<locals>._law_answered.<locals>.<lambda>"
abbrev ansNF (cl : List (Str × Addr)) (c : Addr) : NF := NF.of s_ans "_law_answered" qAns cl c
theorem s_ans_eq : ∃ pos, s_ans = .FunctionDef "_law_answered" (C8.fnArgs s_ans) (C8.fnBody s_ans) [] none [] (C8.fnScope s_ans) none "_law_answered" pos := ⟨_, rfl⟩
theorem asked_body : ∃ p1 p2, defBody s_law_asked = [s_ans, .Return (some (.Name "_law_answered" p1)) p2] := ⟨_, _, rfl⟩
theorem ans_fr : ndefB (defScope s_law_asked) (C8.fnScope s_ans) ["_law_plan", "_law_rows_here", "_law_told"] = true := by decide +kernel
theorem ans_ar : (C8.fnArgs s_ans).defaults = [] ∧ (C8.fnArgs s_ans).kw_defaults = [] := ⟨rfl, rfl⟩
theorem ans_cells : ∀ x ∈ (["_law_plan", "_law_rows_here", "_law_told"] : List Str), (defScope s_law_asked).names.lookup x = some .cell := by decide +kernel
theorem ans_only : ∀ y ∈ (C8.fnScope s_ans).names, y.2 = .free → y.1 ∈ (["_law_plan", "_law_rows_here", "_law_told"] : List Str) := by decide +kernel
theorem asked_loc : (defScope s_law_asked).names.lookup ("_law_answered" : Str) = some .local := by decide +kernel
/-- what _law_asked made: the function f with its code object at c', its table at P2, three cells -/
structure Asked (K : PySem.W.Frag) (H : Hp) (f c' P2 k1 k2 k3 : Addr) (cl : List (Str × Addr)) (v1 v2 v3 : V) : Prop where
  ti : TI (askP K) qAns qLam H
  ne : P2 ≠ askP K
  tab : TabS H P2 qLam
  fn : H f = some (FnO f (ansNF cl c'))
  code : H c' = some (CodeX c' qAns P2)
  l1 : cl.lookup ("_law_plan" : Str) = some k1
  l2 : cl.lookup ("_law_rows_here" : Str) = some k2
  l3 : cl.lookup ("_law_told" : Str) = some k3
  only : ∀ y c, cl.lookup y = some c → c = k1 ∨ c = k2 ∨ c = k3
  inj : ∀ x y c, cl.lookup x = some c → cl.lookup y = some c → x = y
  c1 : H k1 = some (CellO k1 v1)
  c2 : H k2 = some (CellO k2 v2)
  c3 : H k3 = some (CellO k3 v3)
def p_law_asked (K : PySem.W.Frag) : Pm := fun vs H Q => ∃ v1 v2 v3, vs = [v1, v2, v3] ∧ TI (askP K) qAns qLam H ∧
  ∀ (f c' P2 k1 k2 k3 : Addr) (cl : List (Str × Addr)) (H' : Hp), ExtN H H' → H f = none → H k1 = none → H k2 = none → H k3 = none → Asked K H' f c' P2 k1 k2 k3 cl v1 v2 v3 → Q (.ref f) H'
theorem askC_of {K : PySem.W.Frag} {f : Addr} {oc : Value} {od : Option Addr} {fd : FuncData} {osl : Array (Option Value)} {q : Str} (lk : K.lookup f = some ⟨oc, od, .func fd, osl⟩) (hcd : PySem.W.codeIn K fd.code q = true) : fd.code = .ref (codeOf K f) := by
  unfold codeOf
  rw [lk]
  unfold PySem.W.codeIn at hcd
  dsimp only
  split at hcd
  · rename_i c e
    rw [e]
  · cases hcd
section
variable {P : Program} {w : World} {K : PySem.W.Frag} {mg : Str → Option Value} {base : Heap}
theorem cell_of {X : Cx} {pins : List (Addr × Obj)} {σ : L2.St} {H : Hp} {s : Shared} {i : Nat} {x : Str} {v : V} (I : L2.Inv X pins σ H s) (hN : X.N[i]? = some x) (hs : σ[i]? = some (some v)) (hk : X.env.scope.names.lookup x = some .cell) (hf : X.fn x = true) :
    ∃ k u, X.env.cells.lookup x = some k ∧ L2.RelV v u ∧ s.heap.IsCell k (some u) ∧ H k = none ∧ X.s_0.heap.objs.size ≤ k := by
  obtain ⟨m, hn, hl⟩ := I.loc
  obtain ⟨u, r, l⟩ := hl i x v hN hs (.inr (.inl hk))
  rcases l with ⟨z, _⟩ | ⟨_, k, hc, hcell⟩
  · have z : X.env.scope.names.lookup x = some .local := z
    rw [hk] at z
    cases z
  · have ab := I.ok.cab x k hf hc
    exact ⟨k, u, hc, r, hcell, I.freeC x k hc, ab⟩
theorem none_of_size {h : Heap} {a : Addr} (n : h.objs.size ≤ a) : h.get? a = none := by
  cases e : h.get? a with
  | none => rfl
  | some o => exact absurd (Nat.lt_of_lt_of_le (Heap.lt_size e) n) (Nat.lt_irrefl _)
theorem ok_law_asked (S : TX K mg) (TB : TabB base mg (askC K) (askP K)) : OkF P w K mg base 1 (He.ga K "_law_asked") (p_law_asked K) := by
  obtain ⟨fd, F⟩ := F_law_asked S
  obtain ⟨oc, od, dV, kV, doc, pm, an, cdv, ct, osl, rfl, lk, hcd, _, _⟩ := F.ex
  refine ⟨_, ["_law_plan", "_law_rows_here", "_law_told"], ⟨fun vs H Q _ h => ?_, fun A outer s H args us vs Q E hr e0 hb r hsp => ?_⟩, F.kp, F.bindsN fun _ _ _ _ _ _ us hl => match us, hl with | [_, _, _], _ => rfl⟩
  · obtain ⟨v1, v2, v3, rfl, _⟩ := h
    rfl
  obtain ⟨v1, v2, v3, rfl, hT, q⟩ := hsp
  have S1 := sc_law_asked
  have hcv : cdv = .ref (askC K) := askC_of lk hcd
  have KX : K.In s.heap := e0.mod.kin.keeps fun b o e => (e0.bs b o e).1
  have lim : s.heap.NoLimit := e0.mod.nolimit.keeps fun b o e => (e0.bs b o e).1
  have hkind : ∀ y ∈ (["_law_plan", "_law_rows_here", "_law_told"] : List Str).zip us, (defScope s_law_asked).names.lookup y.1 = some .local ∨ ((defScope s_law_asked).names.lookup y.1 = some .cell ∧ ((cellsFrom (s.heap.objs.size + 1) (defScope s_law_asked).names []).lookup y.1).isSome = true) := fun ⟨n, v⟩ hy => by
    rcases S1.par n (List.of_mem_zip hy).1 with q | q
    · exact .inl q
    · exact .inr ⟨q, PySem.W.cellsFrom_some _ _ _ (.inl q)⟩
  refine codeAny_call_function hr.depth (KX _ _ lk) rfl S1.co S1.gen rfl (PySem.W.codeRec_of KX hcd) (hb _ _ _ _ ?_)
  refine wpAny_newFunctionEnv_cells S1.kind hkind fun env he s1 x => ?_
  subst he
  refine ⟨lim.keeps x.toInCall.keep, codeAny_func ?_⟩
  have I : L2.Inv (cxOf CX0 P w K mg base ["_law_plan", "_law_rows_here", "_law_told", "_law_answered"] "_law_asked" (defScope s_law_asked) (He.ga K "_law_asked") cdv A outer s H E) [] (L2.start ["_law_plan", "_law_rows_here", "_law_told", "_law_answered"] [v1, v2, v3]) H s1 := inv_start S1 hr.hd e0 rfl r x
  obtain ⟨p1, p2, eb⟩ := asked_body
  obtain ⟨pos, es⟩ := s_ans_eq
  have ee : ∀ env, exec s_ans env = exec (.FunctionDef "_law_answered" (C8.fnArgs s_ans) (C8.fnBody s_ans) [] none [] (C8.fnScope s_ans) none "_law_answered" pos) env := fun env => congrArg (fun st => exec st env) es
  rw [eb]
  refine wpAny_execs_cons ?_
  rw [ee]
  refine PySem.W.nestDef_K rfl rfl rfl ?_
  have fr := ndef_free ans_fr
  have hfree : ∀ y ∈ (C8.fnScope s_ans).names, y.2 = .free → ∃ c, (cellsFrom (s.heap.objs.size + 1) (defScope s_law_asked).names []).lookup y.1 = some c := fun y hy e => (fr y hy e).elim (fun z => I.ok.has _ (.inl z)) fun z => I.ok.has _ (.inr z)
  refine ndef_x (qA := qAns) (qL := qLam) I TB hcv rfl hT hfree ?_ fun f c' P2 H1 s2 I1 eN nn T1 f0 f1 c1 n2 t2 => ?_
  · obtain ⟨c, hl⟩ := mem_lookup (cloFrom_has (cells := cellsFrom (s.heap.objs.size + 1) (defScope s_law_asked).names []) (acc := []) (ndef_fr ans_fr "_law_plan" (by simp)))
    intro z
    rw [show cloFrom (cellsFrom (s.heap.objs.size + 1) (defScope s_law_asked).names []) (C8.fnScope s_ans).names [] = [] from z] at hl
    cases hl
  refine store_ok (i := 3) I1 S1.nd rfl (.inl asked_loc) (v := .ref f) rfl (fun s3 I2 => ?_) (.inl rfl)
  refine wpAny_execs_cons ?_
  refine wpAny_Return_some (thn ((pe_var (i := 3) rfl (.inl asked_loc)).run [] s3 _ H1 (fun v H' => v = .ref f ∧ H' = H1) I2 ⟨.ref f, rfl, rfl, rfl⟩) fun u s4 ⟨v, H4, I4, r4, e4⟩ => ?_)
  obtain ⟨rfl, rfl⟩ := e4
  obtain ⟨k1, u1, a1, r1, b1, d1, n1⟩ := cell_of (i := 0) (v := v1) I4 rfl rfl (ans_cells "_law_plan" (by simp)) rfl
  obtain ⟨k2, u2, a2, r2, b2, d2, n2'⟩ := cell_of (i := 1) (v := v2) I4 rfl rfl (ans_cells "_law_rows_here" (by simp)) rfl
  obtain ⟨k3, u3, a3, r3, b3, d3, n3⟩ := cell_of (i := 2) (v := v3) I4 rfl rfl (ans_cells "_law_told" (by simp)) rfl
  have k12 : k2 ≠ k1 := fun z => absurd (I4.ok.inj _ _ _ a2 (z ▸ a1)) (by decide)
  have k13 : k3 ≠ k1 := fun z => absurd (I4.ok.inj _ _ _ a3 (z ▸ a1)) (by decide)
  have k23 : k3 ≠ k2 := fun z => absurd (I4.ok.inj _ _ _ a3 (z ▸ a2)) (by decide)
  have m2 : upd H4 k1 (CellO k1 v1) k2 = none := (upd_ne k12).trans d2
  have m3 : upd (upd H4 k1 (CellO k1 v1)) k2 (CellO k2 v2) k3 = none := ((upd_ne k23).trans (upd_ne k13)).trans d3
  have up : ∀ b o, H4 b = some o → upd (upd (upd H4 k1 (CellO k1 v1)) k2 (CellO k2 v2)) k3 (CellO k3 v3) b = some o := fun b o e => by
    rw [upd_ne (ne_of_none e d3), upd_ne (ne_of_none e d2), upd_ne (ne_of_none e d1)]
    exact e
  refine ⟨.ref f, upd (upd (upd H4 k1 (CellO k1 v1)) k2 (CellO k2 v2)) k3 (CellO k3 v3), I4.os, I4.bare, un_add (un_add (un_add I4.base d1 (none_of_size n1)) m2 (none_of_size n2')) m3 (none_of_size n3), hok_add (hok_add (hok_add I4.hok d1 (cellO_ok r1 b1)) m2 (cellO_ok r2 b2)) m3 (cellO_ok r3 b3), r4, ?_⟩
  refine q f c' P2 k1 k2 k3 _ _ (eN.trans (ExtN.of up)) f0 (nn _ d1) (nn _ d2) (nn _ d3) ⟨T1.ext up, n2, t2.ext up, up _ _ f1, up _ _ c1, clo_has hfree (ndef_fr ans_fr _ (by simp)) a1, clo_has hfree (ndef_fr ans_fr _ (by simp)) a2, clo_has hfree (ndef_fr ans_fr _ (by simp)) a3, fun y c e => ?_, fun x y c h1 h2 => I4.ok.inj x y c (clo_cm hfree h1) (clo_cm hfree h2), ?_, ?_, upd_same⟩
  · have e2 := clo_cm hfree e
    rcases cloFrom_mem (PySem.mem_of_lookup e) with hm | ⟨h1, _⟩
    · cases hm
    · have o := ans_only _ h1 rfl
      simp only [List.mem_cons, List.not_mem_nil, or_false] at o
      rcases o with o | o | o
      · exact .inl (Option.some.inj (e2.symm.trans (by rw [o]; exact a1)))
      · exact .inr (.inl (Option.some.inj (e2.symm.trans (by rw [o]; exact a2))))
      · exact .inr (.inr (Option.some.inj (e2.symm.trans (by rw [o]; exact a3))))
  · rw [upd_ne k13.symm, upd_ne k12.symm, upd_same]
  · rw [upd_ne k23.symm, upd_same]
end
end Kp
/-! a lambda made, handed on; a def or lambda of the base called by what holds it -/
namespace Kp
open PySem PySem.Spec PyProof.Rows L2 LamX NdefX
/-- a lambda's words -/
structure LF where
  qual : Str
  params : Arguments
  body : Expr
  scope : Scope
  cl : List (Str × Addr)
  c : Addr
abbrev LF.fd (F : LF) (pm ctv : Value) : FuncData := PySem.W.kla_fn "<lambda>" F.qual F.params F.body F.scope F.cl pm (.ref F.c) ctv
def LamO (f : Addr) (F : LF) : HO := .ext fun h => ∃ pm ctv, h.get? f = some (PySem.W.kla_obj "<lambda>" F.qual F.params F.body F.scope F.cl pm F.c ctv)
section
variable {X : Cx} {pins : List (Addr × Obj)} {σ : L2.St} {H : Hp} {s : Shared}
theorem inv_lam {F : LF} {t' : Nat} {pm ctv : Value} (I : L2.Inv X pins σ H s) : L2.Inv X pins σ (upd H s.heap.objs.size (LamO s.heap.objs.size F)) { s with heap := s.heap.push (PySem.W.kla_obj "<lambda>" F.qual F.params F.body F.scope F.cl pm F.c ctv), toks := t' } := by
  have e := Heap.get?_push_size s.heap (o := PySem.W.kla_obj "<lambda>" F.qual F.params F.body F.scope F.cl pm F.c ctv) rfl
  exact I.laid (a := s.heap.objs.size) (fun b u z => Heap.get?_push_of_some _ z) (Nat.le_refl _) ⟨⟨pm, ctv, e⟩, ⟨_, e⟩, fun g1 g2 ⟨a, b, z⟩ st => ⟨a, b, st _ z⟩⟩
/-- all stays but what is at P -/
def KB (P : Addr) (H H' : Hp) : Prop := ∀ b o, b ≠ P → H b = some o → H' b = some o
theorem KB.extN {P : Addr} {H H' : Hp} {q : Str} (k : KB P H H') (t : TabS H P q) : ExtN H H' := fun b o e n => k b o (fun z => by
  obtain ⟨ps, e2, _⟩ := t
  rw [z, e2] at e
  exact n ps (Option.some.inj e).symm) e
theorem lam_x {qL : Str} {c P : Addr} {params : Arguments} {body : Expr} {scope : Scope} {pos : Pos} {E : Value → Shared → Prop} {Q : Value → Shared → Prop} (I : L2.Inv X pins σ H s) (TB : TabB X.base X.mg c P) (hcode : X.env.code = .ref c) (hq : qL = X.env.qual ++ "<lambda>")
    (hT : TabS H P qL) (hdef : defaultsOf params X.env = ([], [])) (hfree : ∀ y ∈ scope.names, y.2 = .free → ∃ c, X.env.cells.lookup y.1 = some c)
    (h : ∀ (f c' : Addr) (H1 : Hp) (s' : Shared), L2.Inv X pins σ H1 s' → KB P H H1 → (∀ b, H1 b = Option.none → H b = Option.none) → TabS H1 P qL → H f = none → H1 f = some (LamO f ⟨qL, params, body, scope, cloFrom X.env.cells scope.names [], c'⟩) → H1 c' = some (CodeO c' qL) → Q (.ref f) s') :
    wpAny (model X.prog X.w) X.A (eval (.Lambda params body scope pos) X.env) Q E s := by
  subst hq
  obtain ⟨ps, hP, ht, ha⟩ := hT
  have bP : s.heap.BuiltinsAt X.mg P := TB.bm.keeps I.bk
  have hP' : s.heap.get? P = some (PySem.W.tabObj ps) := I.hok P _ hP
  refine PySem.W.kla_eval hdef ?_
  cases hc : codeAmong pos ps.toList with
  | none =>
    refine PySem.W.kla_makeFunction (mg := X.mg) (P := P) (ps := ps) (closure_ok hfree) I.ok.glob (I.mod.glob.keeps I.bk) hcode (TB.code.keeps I.bk) hP' ht hc TB.gP bP fun c' ctv h' tk hx hge hlt hrec htb => ?_
    obtain ⟨c2, oc, vs, t, e2, hoc, hd, hv⟩ := hrec
    cases e2
    have nC : H c' = none := I.hok.fresh hge
    have J := inv_table (t' := tk) (q := X.env.qual ++ "<lambda>") (more := #[rawInt pos.line, rawInt pos.col, .ref c']) (h' := h') I hP (fun b o hb e => hx b o hb e) htb hge ⟨oc, vs, t, hoc, hd, hv⟩
    have nF : upd (upd H P (.tbl (ps ++ #[rawInt pos.line, rawInt pos.col, .ref c']))) c' (CodeO c' (X.env.qual ++ "<lambda>")) h'.objs.size = none := J.hok.fresh (Nat.le_refl _)
    have J2 := inv_lam (F := ⟨X.env.qual ++ "<lambda>", params, body, scope, cloFrom X.env.cells scope.names [], c'⟩) (t' := tk) (pm := (X.mg "__name__").getD .none) (ctv := ctv) J
    have keep : ExtN H (upd (upd H P (.tbl (ps ++ #[rawInt pos.line, rawInt pos.col, .ref c']))) c' (CodeO c' (X.env.qual ++ "<lambda>"))) := fun b o e n => by
      rw [upd_ne (ne_of_none e nC), upd_ne fun (z : b = P) => n ps (Option.some.inj (e.symm.trans (by rw [z]; exact hP)))]
      exact e
    have eL : ps.toList ++ [rawInt pos.line, rawInt pos.col, .ref c'] = (ps ++ #[rawInt pos.line, rawInt pos.col, .ref c']).toList := by simp
    have T1 : TabS (upd (upd H P (.tbl (ps ++ #[rawInt pos.line, rawInt pos.col, .ref c']))) c' (CodeO c' (X.env.qual ++ "<lambda>"))) P (X.env.qual ++ "<lambda>") := by
      refine ⟨_, (upd_ne (ne_of_none hP nC)).trans upd_same, eL ▸ PySem.TriplesOk_snoc _ _ _ _ ht, fun p' cv hcv => ?_⟩
      rw [← eL] at hcv
      rcases among_app _ ht hcv with z | z
      · obtain ⟨c0, a1, a2⟩ := ha p' cv z
        exact ⟨c0, a1, keep _ _ a2 codeO_ne⟩
      · exact ⟨c', z, upd_same⟩
    have up : ∀ b o, upd (upd H P (.tbl (ps ++ #[rawInt pos.line, rawInt pos.col, .ref c']))) c' (CodeO c' (X.env.qual ++ "<lambda>")) b = some o → _ := fun b o e => (upd_ne (o := LamO h'.objs.size ⟨X.env.qual ++ "<lambda>", params, body, scope, cloFrom X.env.cells scope.names [], c'⟩) (ne_of_none e nF)).trans e
    exact h h'.objs.size c' _ _ J2 (fun b o nb e => up b o (by rw [upd_ne (ne_of_none e nC), upd_ne nb]; exact e)) (fun b e => upd_none (upd_none (upd_none e))) (T1.ext up) (upd_none (upd_none nF)) upd_same (up _ _ upd_same)
  | some cv =>
    obtain ⟨c', e, hco⟩ := ha pos cv hc
    subst e
    refine PySem.W.kla_makeFunctionHit (mg := X.mg) (P := P) (ps := ps) (closure_ok hfree) I.ok.glob (I.mod.glob.keeps I.bk) hcode (TB.code.keeps I.bk) hP' ht hc bP fun ctv h' tk hx hsz => ?_
    have J : L2.Inv X pins σ H { s with heap := h', toks := tk } := I.kept hx
    have nF : H h'.objs.size = none := J.hok.fresh (Nat.le_refl _)
    have J2 := inv_lam (F := ⟨X.env.qual ++ "<lambda>", params, body, scope, cloFrom X.env.cells scope.names [], c'⟩) (t' := tk) (pm := (X.mg "__name__").getD .none) (ctv := ctv) J
    have up : ∀ b o, H b = some o → _ := fun b o e => (upd_ne (o := LamO h'.objs.size ⟨X.env.qual ++ "<lambda>", params, body, scope, cloFrom X.env.cells scope.names [], c'⟩) (ne_of_none e nF)).trans e
    exact h h'.objs.size c' _ _ J2 (fun b o _ e => up b o e) (fun b e => upd_none e) (TabS.ext ⟨ps, hP, ht, ha⟩ up) nF upd_same (up _ _ hco)
end
/-- lambda ..: handed on -/
def tLamX (P : Addr) (qL : Str) (mk : Addr → LF) : TE := fun _ H Q => TabS H P qL ∧ ∀ (f c' : Addr) (H1 : Hp), KB P H H1 → (∀ b, H1 b = Option.none → H b = Option.none) → TabS H1 P qL → H f = none → H1 f = some (LamO f (mk c')) → H1 c' = some (CodeO c' qL) → Q (.ref f) H1
theorem pe_lamx {X : Cx} {qL : Str} {c P : Addr} {params : Arguments} {body : Expr} {scope : Scope} {pos : Pos} (TB : TabB X.base X.mg c P) (hcode : X.env.code = .ref c) (hq : qL = X.env.qual ++ "<lambda>") (hdef : defaultsOf params X.env = ([], []))
    (hfree : ∀ y ∈ scope.names, y.2 = .free → X.env.scope.names.lookup y.1 = some .cell ∨ X.env.scope.names.lookup y.1 = some .free) : PE X (.Lambda params body scope pos) (tLamX P qL fun c' => ⟨qL, params, body, scope, cloFrom X.env.cells scope.names [], c'⟩) :=
  ⟨fun pins s σ H Q I h => lam_x I TB hcode hq h.1 hdef (fun y hy e => (hfree y hy e).elim (fun z => I.ok.has _ (.inl z)) fun z => I.ok.has _ (.inr z)) fun f c' H1 s' J eN nn T f0 f1 c1 => ⟨.ref f, H1, J, rfl, h.2 f c' H1 eN nn T f0 f1 c1⟩⟩
section
variable {P : Program} {w : World} {K : PySem.W.Frag} {mg : Str → Option Value} {base : Heap} {N ps fr : List Str} {k : Nat} {f : Addr} {sp : Pm} {ws : List (Option V)}
/-- what captured cells of the base hold -/
structure CapB (cl : List (Str × Addr)) (fr : List Str) (ws : List (Option V)) (h : Heap) : Prop where
  len : ws.length = fr.length
  all : ∀ y c, cl.lookup y = some c → ∃ v, h.IsCell c v
  inj : ∀ x y c, cl.lookup x = some c → cl.lookup y = some c → x = y
  has : ∀ (i : Nat) (y : Str), fr[i]? = some y → ∃ c, cl.lookup y = some c ∧ ∀ v, ws[i]? = some (some v) → ∃ u, L2.RelV v u ∧ h.IsCell c (some u)
theorem CapB.at_ {cl : List (Str × Addr)} {A : Around} {outer : List Env} {s : Shared} {H : Hp} (C : CapB cl fr ws base) (e0 : Env0 P w K mg base A outer s H) : CellsAt cl fr ws s.heap H := by
  have up : ∀ {c : Addr} {v : Option Value}, base.IsCell c v → s.heap.IsCell c v := fun ⟨o, ho, hd⟩ => ⟨o, (e0.bs _ _ ho).1, hd⟩
  refine ⟨C.len, fun y c e => ?_, C.inj, fun i y e => ?_⟩
  · obtain ⟨v, hv⟩ := C.all y c e
    obtain ⟨o, ho, _⟩ := id hv
    exact ⟨(e0.bs _ _ ho).2, v, up hv⟩
  · obtain ⟨c, hc, hv⟩ := C.has i y e
    refine ⟨c, hc, fun v ev => ?_⟩
    obtain ⟨u, r, z⟩ := hv v ev
    exact ⟨u, r, up z⟩
/-- a def made in the base -/
theorem ask_def {F : NF} (S : NScope N ps fr F.scope) (hb : ∀ (doc pm ctv : Value) (us : List Value), us.length = ps.length → bindArgs (F.fd doc pm ctv) ⟨us, []⟩ = pure (ps.zip us))
    (ho : ∃ (od : Option Addr) (sl : Array (Option Value)) (doc pm ctv : Value), base.get? f = some (⟨.type "function", od, .func (F.fd doc pm ctv), sl⟩ : Obj)) (hc : base.CodeRec (.ref F.c) F.qual) (C : CapB F.cl fr ws base) (len : ∀ vs H Q, sp vs H Q → vs.length = ps.length)
    (hbody : ∀ (A : Around) (outer : List Env) (s : Shared) (H : Hp) (vs : List V) (Q : VK), Room k (A.deeper (envF F f s.heap.objs.size)) → sp vs H Q →
      ∃ t, PSs (ncx CX0 P w K mg base N F f A outer s H E0).nox F.body t ∧ t { nx := fun _ H' => Q .non H', rt := Q } (startF N vs ws) H) : AskOk P w K mg base (k + 1) f sp := by
  obtain ⟨od, sl, doc, pm, ctv, ho⟩ := ho
  refine ⟨⟨_, od, _, sl, ho⟩, fun A outer s H us vs Q hr e0 r hsp => ?_⟩
  have hl := len _ _ _ hsp
  have lim : s.heap.NoLimit := e0.mod.nolimit.keeps fun b o e => (e0.bs b o e).1
  obtain ⟨cc, oc, vc, tq, q1, q2, q3, q4⟩ := hc
  refine codeAny_call_function hr.depth (e0.bs _ _ ho).1 rfl S.co S.gen rfl ⟨cc, oc, vc, tq, q1, (e0.bs _ _ q2).1, q3, q4⟩ ?_
  rw [hb doc pm ctv us (r.length ▸ hl)]
  refine wpAny_pure (wpAny_newFunctionEnv S.nocell (fun ⟨n, _⟩ hy => S.par n (List.of_mem_zip hy).1) (fun h₁ hns hsb => ⟨lim.fresh _ hsb, ?_⟩) S.kind)
  refine codeAny_func (env := envF F f s.heap.objs.size) ?_
  have kp : ∀ b o, s.heap.get? b = some o → h₁.get? b = some o := fun b o e => hsb.extBut b o (fun z => Nat.lt_irrefl _ (z ▸ Heap.lt_size e)) (Heap.get?_push_of_some _ e)
  obtain ⟨t, ht, hq⟩ := hbody A outer s H vs Q (hr.deeper _) hsp
  have J : L2.Inv (ncx CX0 P w K mg base N F f A outer s H E0) [] (startF N vs ws) H { s with heap := h₁, toks := s.toks + (ps.zip us).length } := inv_startN S hr.hd e0 hl r (C.at_ e0) hns kp
  refine wpAny_mono (ht.nox.run [] _ _ H _ J hq) (fun fl s' hs => ?_) fun e s' hs => hs
  cases fl with
  | ret u =>
    obtain ⟨v, σ', H', J', rv, q⟩ := hs
    exact ⟨v, H', J'.os, J'.bare, J'.base, J'.hok, rv, q⟩
  | next =>
    obtain ⟨σ', H', J', q⟩ := hs
    exact ⟨V.non, H', J'.os, J'.bare, J'.base, J'.hok, rfl, q⟩
  | brk => exact False.elim hs.choose_spec.choose_spec.2
  | cont => exact False.elim hs.choose_spec.choose_spec.2
abbrev LF.nf (F : LF) : NF := ⟨"<lambda>", F.qual, F.params, [], F.scope, F.cl, F.c⟩
/-- a lambda made in the base -/
theorem ask_lam {F : LF} (S : NScope N ps fr F.scope) (hb : ∀ (pm ctv : Value) (us : List Value), us.length = ps.length → bindArgs (F.fd pm ctv) ⟨us, []⟩ = pure (ps.zip us)) (ho : ∃ pm ctv, base.get? f = some (PySem.W.kla_obj "<lambda>" F.qual F.params F.body F.scope F.cl pm F.c ctv)) (hc : base.CodeRec (.ref F.c) F.qual)
    (C : CapB F.cl fr ws base) (len : ∀ vs H Q, sp vs H Q → vs.length = ps.length)
    (hbody : ∀ (A : Around) (outer : List Env) (s : Shared) (H : Hp) (vs : List V) (Q : VK), Room k (A.deeper (envF F.nf f s.heap.objs.size)) → sp vs H Q → ∃ t, PE (ncx CX0 P w K mg base N F.nf f A outer s H E0).nox F.body t ∧ t (startF N vs ws) H Q) : AskOk P w K mg base (k + 1) f sp := by
  obtain ⟨pm, ctv, ho⟩ := ho
  refine ⟨⟨_, _, _, _, ho⟩, fun A outer s H us vs Q hr e0 r hsp => ?_⟩
  have hl := len _ _ _ hsp
  have lim : s.heap.NoLimit := e0.mod.nolimit.keeps fun b o e => (e0.bs b o e).1
  obtain ⟨cc, oc, vc, tq, q1, q2, q3, q4⟩ := hc
  refine PySem.W.kla_callFunE hr.depth (e0.bs _ _ ho).1 rfl S.co S.gen rfl ⟨cc, oc, vc, tq, q1, (e0.bs _ _ q2).1, q3, q4⟩ ?_
  rw [hb pm ctv us (r.length ▸ hl)]
  refine wpAny_pure (wpAny_newFunctionEnv S.nocell (fun ⟨n, _⟩ hy => S.par n (List.of_mem_zip hy).1) (fun h₁ hns hsb => ⟨lim.fresh _ hsb, ?_⟩) S.kind)
  have kp : ∀ b o, s.heap.get? b = some o → h₁.get? b = some o := fun b o e => hsb.extBut b o (fun z => Nat.lt_irrefl _ (z ▸ Heap.lt_size e)) (Heap.get?_push_of_some _ e)
  obtain ⟨t, ht, hq⟩ := hbody A outer s H vs Q (hr.deeper _) hsp
  have J : L2.Inv (ncx CX0 P w K mg base N F.nf f A outer s H E0) [] (startF N vs ws) H { s with heap := h₁, toks := s.toks + (ps.zip us).length } := inv_startN S hr.hd e0 hl r (C.at_ e0) hns kp
  refine PySem.W.kla_codeExpr (env := envF F.nf f s.heap.objs.size) (wpAny_mono (ht.nox.run [] _ _ H Q J hq) (fun v s' hq => ?_) fun e s' hq => hq)
  obtain ⟨v', H', J', rv, q⟩ := hq
  exact ⟨v', H', J'.os, J'.bare, J'.base, J'.hok, rv, q⟩
end
end Kp
/-! the lambda within the answerer, asked -/
namespace Kp
open PySem PySem.Spec PyProof.Rows L2 LamX NdefX
def lamE : Expr := match C8.fnBody s_ans with
  | .If _ (.Expr (.Call _ (_ :: e :: _) _ _) _ :: _) _ _ :: _ => e
  | _ => default
def lamA : Arguments := match lamE with
  | .Lambda a _ _ _ => a
  | _ => C8.fnArgs s_ans
def lamB : Expr := match lamE with
  | .Lambda _ b _ _ => b
  | _ => lamE
def lamS : Scope := match lamE with
  | .Lambda _ _ s _ => s
  | _ => C8.fnScope s_ans
abbrev lamF (cl : List (Str × Addr)) (c : Addr) : LF := ⟨qLam, lamA, lamB, lamS, cl, c⟩
theorem sc_lam : NScope ["_law_one", "_law_rows_here"] ["_law_one"] ["_law_rows_here"] lamS := nscope_by (by decide +kernel)
theorem sc_ans : NScope ["_law_place", "_law_plan", "_law_rows_here", "_law_told"] ["_law_place"] ["_law_plan", "_law_rows_here", "_law_told"] (C8.fnScope s_ans) := nscope_by (by decide +kernel)
theorem lam_in : ndefB (C8.fnScope s_ans) lamS ["_law_rows_here"] = true := by decide +kernel
section
variable {P : Program} {w : World} {K : PySem.W.Frag} {mg : Str → Option Value} {base : Heap}
def p_lam (a : Addr) (ra : Nat → Addr) (h n : Nat) (g : G2) : Pm := fun vs H Q => ∃ (t : Addr) (q : Nat × Nat), vs = [.ref t] ∧ Rows H a ra h n g ∧ H t = some (cT q) ∧ q.1 < h ∧ q.2 < n ∧ Q (.int (3 - g q.1 q.2)) H
theorem ask_one {cl : List (Str × Addr)} {c a f : Addr} {ra : Nat → Addr} {h n : Nat} {g : G2} (ho : ∃ pm ctv, base.get? f = some (PySem.W.kla_obj "<lambda>" qLam lamA lamB lamS cl pm c ctv)) (hc : base.CodeRec (.ref c) qLam)
    (C : CapB cl ["_law_rows_here"] [some (.ref a)] base) : AskOk P w K mg base 1 f (p_lam a ra h n g) := by
  refine ask_lam (F := lamF cl c) sc_lam (fun _ _ us hl => match us, hl with | [_], _ => rfl) ho hc C (fun vs H Q ⟨_, _, e, _⟩ => by rw [e]; rfl) fun A outer s H vs Q hr hq => ?_
  obtain ⟨t, q, rfl, hR, ht, q1, q2, hQ⟩ := hq
  refine ⟨_, (pe_op op_sub pe_int (pe_ix (kIxL (K := K) rfl) (pe_ix (kIxL (K := K) rfl) (pe_var (i := 1) rfl (.inr (.inr rfl))) (pe_ix (kIxT (K := K) rfl) (pe_var (i := 0) rfl (.inl rfl)) pe_int (fun _ _ => rfl)) (fun _ _ => rfl)) (pe_ix (kIxT (K := K) rfl) (pe_var (i := 0) rfl (.inl rfl)) pe_int (fun _ _ => rfl)) (fun _ _ => rfl))), ?_⟩
  tm_at "go"
  refine gIxT (SqT.of ht) (i := 0) rfl ?_
  refine gIxL (SqL.of hR.top) (at_tab q1) ?_
  tm_at "go"
  refine gIxT (SqT.of ht) (i := 1) rfl ?_
  refine gIxL (SqL.of (hR.row _ q1)) (at_tab q2) ?_
  tm_at "go"
  exact hQ
end
end Kp
/-! the answerer, asked -/
namespace Kp
open PySem PySem.Spec PyProof.Rows L2 LamX NdefX
/-- what is tracked, but the list td, tables and what is known by a look alone -/
def Plain (td : Addr) (H H' : Hp) : Prop := ∀ b o, H b = some o → b ≠ td → (∀ ps, o ≠ .tbl ps) → (∀ φ, o ≠ .ext φ) → H' b = some o
/-- all stays but the list td and the table P2 -/
def KB2 (td P2 : Addr) (H H' : Hp) : Prop := ∀ b o, b ≠ td → (b = P2 → ∀ ps, o ≠ .tbl ps) → H b = some o → H' b = some o
theorem KB2.extS {td P2 : Addr} {H H' : Hp} (k : KB2 td P2 H H') : ExtS (· = td) H H' := fun b o e n1 n2 => k b o n1 (fun _ => n2) e
theorem KB.all {P : Addr} {H H' : Hp} {q : Str} (k : KB P H H') (t : TabS H P q) {b : Addr} {o : HO} (n : b = P → ∀ ps, o ≠ .tbl ps) (e : H b = some o) : H' b = some o := k b o (fun z => by
  obtain ⟨ps, e2, _⟩ := t
  have e3 := e
  rw [z, e2] at e3
  exact n z ps (Option.some.inj e3).symm) e
def ansJ (H0 : Hp) (td P2 : Addr) (al : Nat × Nat → Prop) (n : Nat) (H : Hp) : Prop := KB2 td P2 H0 H ∧ TabS H P2 qLam ∧ ∃ ts qs, LOf H td ts qs cT ∧ qs.length = n ∧ ∀ q ∈ qs, al q
def p_ans (H0 : Hp) (td P2 : Addr) (al : Nat × Nat → Prop) (h w : Nat) (g : G2) : Pm := fun vs H Q => ∃ (n : Nat) (t : Addr) (q : Nat × Nat), vs = [.ref t] ∧ n < 4096 ∧ ansJ H0 td P2 al n H ∧ H t = some (cT q) ∧ al q ∧ q.1 < h ∧ q.2 < w ∧
  ∀ H2, ansJ H0 td P2 al (n + 1) H2 → KB2 td P2 H H2 → Q (.int (g q.1 q.2)) H2
theorem tabS_kept {H H' : Hp} {P2 : Addr} {q : Str} {N : Addr → Prop} (t : TabS H P2 q) (k : Kept N H H') (n : ∀ b, N b → ∀ o, H b = some o → ∃ xs, o = .lst xs) : TabS H' P2 q := by
  obtain ⟨ps, h1, h2, h3⟩ := t
  have nt : ∀ {b : Addr} {o : HO}, H b = some o → (∀ xs, o ≠ .lst xs) → H' b = some o := fun {b o} e m => k b o e fun z => by
    obtain ⟨xs, q⟩ := n b z o e
    exact m xs q
  refine ⟨ps, nt h1 (fun xs z => by cases z), h2, fun pos cv hc => ?_⟩
  obtain ⟨c, e1, e2⟩ := h3 pos cv hc
  exact ⟨c, e1, nt e2 fun xs z => by unfold CodeO at z; cases z⟩
theorem ansJ_ask {H0 : Hp} {td P2 : Addr} {al : Nat × Nat → Prop} (ht : H0 td = some (.lst [])) (T : TabS H0 P2 qLam) : AskJ (ansJ H0 td P2 al) (· = td) (fun b => H0 b ≠ none) H0 := by
  refine ⟨⟨fun _ _ _ _ e => e, T, fun _ => td, [], LOf.nil ht, rfl, fun q z => by cases z⟩, fun n H1 H2 N ⟨a1, a2, ts, qs, a3, a4, a5⟩ k hN => ?_, fun b e => ⟨[], e ▸ ht⟩, fun b e => e, fun b e z => by rw [show b = td from e, ht] at z; cases z⟩
  have nl : ∀ b, N b → ∀ o, H1 b = some o → ∃ xs, o = .lst xs := fun b z => (hN b z).1
  refine ⟨fun b o n1 n2 e => k b o (a1 b o n1 n2 e) fun z => (hN b z).2 (by rw [e]; exact fun z => by cases z), tabS_kept a2 k nl, ts, qs, ⟨k _ _ a3.top fun z => (hN td z).2 (by rw [ht]; exact fun z => by cases z), fun i x e => k _ _ (a3.it i x e) fun z => ?_⟩, a4, a5⟩
  obtain ⟨xs, q⟩ := nl _ z _ (a3.it i x e)
  unfold cT at q
  cases q
theorem lof_snoc {H : Hp} {td t : Addr} {ts : Nat → Addr} {qs : List (Nat × Nat)} {q : Nat × Nat} (l : LOf H td ts qs cT) (ht : H t = some (cT q)) : LOf (upd H td (.lst ((tab qs.length fun i => V.ref (ts i)) ++ [.ref t]))) td (fun i => if i < qs.length then ts i else t) (qs ++ [q]) cT := by
  have ne : ∀ {b : Addr} {x : Nat × Nat}, H b = some (cT x) → b ≠ td := fun {b x} e z => by
    rw [z, l.top] at e
    cases e
  refine ⟨?_, fun i x e => ?_⟩
  · rw [upd_same, List.length_append, List.length_singleton]
    have e : (tab (qs.length + 1) fun i => V.ref (if i < qs.length then ts i else t)) = (tab qs.length fun i => V.ref (ts i)) ++ [.ref t] := by
      rw [← tab_snoc]
      congr 1
      · exact tab_congr fun i hi => by rw [if_pos hi]
      · rw [if_neg (Nat.lt_irrefl _)]
    rw [e]
  · by_cases hi : i < qs.length
    · rw [List.getElem?_append_left hi] at e
      rw [if_pos hi, upd_ne (ne (l.it i x e))]
      exact l.it i x e
    · have e2 : i = qs.length := by
        have := (List.getElem?_eq_some_iff.mp e).1
        rw [List.length_append, List.length_singleton] at this
        omega
      subst e2
      rw [List.getElem?_append_right (Nat.le_refl _), Nat.sub_self] at e
      cases e
      rw [if_neg hi, upd_ne (ne ht)]
      exact ht
/-- the data of a list of places -/
abbrev dPl (qs : List (Nat × Nat)) : List PyData := qs.map fun q => PyData.tuple [.int (q.1 : Int), .int (q.2 : Int)]
theorem dPl_lay : ∀ qs, PyData.canLayAll0 (dPl qs) = true
  | [] => rfl
  | q :: qs => by
    show (PyData.canLay0 (.tuple [.int (q.1 : Int), .int (q.2 : Int)]) && PyData.canLayAll0 (dPl qs)) = true
    rw [dPl_lay qs]
    rfl
theorem dPl_depth : ∀ qs, PyData.depthAll (dPl qs) ≤ 1
  | [] => by decide
  | q :: qs => by
    show max (PyData.depth (.tuple [.int (q.1 : Int), .int (q.2 : Int)])) (PyData.depthAll (dPl qs)) ≤ 1
    have := dPl_depth qs
    have e : PyData.depth (.tuple [.int (q.1 : Int), .int (q.2 : Int)]) = 1 := rfl
    omega
theorem dPl_shaped (qs : List (Nat × Nat)) : SeqAt.shaped (.list (dPl qs)) = true := by
  unfold SeqAt.shaped
  rw [show PyData.canLay0 (.list (dPl qs)) = true from dPl_lay qs, Bool.true_and]
  refine decide_eq_true ?_
  have := dPl_depth qs
  show PyData.depthAll (dPl qs) + 1 ≤ 64
  omega
theorem dp_all {K : PySem.W.Frag} {H : Hp} : ∀ (xs : List V) (qs : List (Nat × Nat)), xs.length = qs.length → (∀ (i : Nat) (q : Nat × Nat), qs[i]? = some q → ∃ b, xs[i]? = some (V.ref b) ∧ H b = some (cT q)) → DpAll K H xs (dPl qs)
  | [], [], _, _ => .nil
  | [], _ :: _, h, _ => by cases h
  | _ :: _, [], h, _ => by cases h
  | x :: xs, q :: qs, hl, h => by
    obtain ⟨b, e1, e2⟩ := h 0 q rfl
    cases e1
    exact .cons (.tup (SqT.of e2) (.cons (.int _) (.cons (.int _) .nil))) (dp_all xs qs (Nat.succ.inj hl) fun i q e => h (i + 1) q e)
theorem dp_told {K : PySem.W.Frag} {H : Hp} {td : Addr} {ts : Nat → Addr} {qs : List (Nat × Nat)} (l : LOf H td ts qs cT) : Dp K H (.ref td) (.list (dPl qs)) :=
  .lst (SqL.of l.top) (dp_all _ qs tab_len fun i q e => ⟨ts i, tab_get (List.getElem?_eq_some_iff.mp e).1, l.it i q e⟩)
theorem eqv_nil : ∀ qs, PyData.eqv (.list (dPl qs)) (.list []) = decide (qs = [])
  | [] => rfl
  | q :: qs => rfl
end Kp
/-! the answerer's walk -/
namespace Kp
open PySem PySem.Spec PyProof.Rows L2 LamX NdefX
section
variable {P : Program} {w : World} {K : PySem.W.Frag} {mg : Str → Option Value} {base : Heap}
theorem lam_free : ∀ y ∈ lamS.names, y.2 = .free → y.1 = "_law_rows_here" := by decide +kernel
theorem cap_lam {cl : List (Str × Addr)} {b b' : Heap} {p a td : Addr} (C : CapB cl ["_law_plan", "_law_rows_here", "_law_told"] [some (.ref p), some (.ref a), some (.ref td)] b) (up : ∀ x o, b.get? x = some o → b'.get? x = some o) : CapB (cloFrom cl lamS.names []) ["_law_rows_here"] [some (.ref a)] b' := by
  obtain ⟨k, hk, hv⟩ := C.has 1 "_law_rows_here" rfl
  have hf : ∀ y ∈ lamS.names, y.2 = .free → ∃ c, cl.lookup y.1 = some c := fun y hy e => ⟨k, by rw [lam_free y hy e]; exact hk⟩
  have upC : ∀ {c : Addr} {v : Option Value}, b.IsCell c v → b'.IsCell c v := fun ⟨o, ho, hd⟩ => ⟨o, up _ _ ho, hd⟩
  refine ⟨rfl, fun y c e => ?_, fun x y c e1 e2 => C.inj x y c (clo_cm hf e1) (clo_cm hf e2), fun i y e => ?_⟩
  · obtain ⟨v, z⟩ := C.all y c (clo_cm hf e)
    exact ⟨v, upC z⟩
  · match i, e with
    | 0, e =>
      cases e
      refine ⟨k, clo_has hf (ndef_fr lam_in _ (by simp)) hk, fun v ev => ?_⟩
      obtain ⟨u, r, z⟩ := hv v ev
      exact ⟨u, r, upC z⟩
    | i + 1, e => cases e
theorem ask_ans (S : TX K mg) {cl : List (Str × Addr)} {c f p a td P2 : Addr} {ra : Nat → Addr} {h n : Nat} {r : Rl} {ws : List L} {g : G2} {H0 : Hp} {al : Nat × Nat → Prop} (TB : TabB base mg c P2)
    (ho : ∃ (od : Option Addr) (sl : Array (Option Value)) (doc pm ctv : Value), base.get? f = some (⟨.type "function", od, .func ((ansNF cl c).fd doc pm ctv), sl⟩ : Obj)) (hc : base.CodeRec (.ref c) qAns)
    (C : CapB cl ["_law_plan", "_law_rows_here", "_law_told"] [some (.ref p), some (.ref a), some (.ref td)] base)
    (hP : ∀ H, Plain td H0 H → PlanAt K H p h n r ws) (hR : ∀ H, Plain td H0 H → Rows H a ra h n g)
    (hb : ∀ pls : List (Nat × Nat), (∀ x, x ∈ pls ↔ needM r (h, n) ws (· = (0, 0)) x) → Bd 1000000000 h n (maskL pls fun y x => 3 - g y x) ∧ Bd 999999999999999 h n (maskL pls fun y x => 3 - g y x) ∧ Bd 999999999999999 h n (backM r (h, n) ws (maskL pls fun y x => 3 - g y x))) :
    AskOk P w K mg base 25 f (p_ans H0 td P2 al h n g) := by
  refine ask_def (F := ansNF cl c) sc_ans (fun _ _ _ us hl => match us, hl with | [_], _ => rfl) ho hc C (fun vs H Q ⟨_, _, _, e, _⟩ => by rw [e]; rfl) fun A outer s H vs Q hr hq => ?_
  obtain ⟨m, t, q, rfl, hm, ⟨j1, j2, ts, qs, j3, j4, j5⟩, ht, hal, q1, q2, hQ⟩ := hq
  have one : PE (ncx CX0 P w K mg base ["_law_place", "_law_plan", "_law_rows_here", "_law_told"] (ansNF cl c) f A outer s H E0).nox lamE (tLamX P2 qLam (lamF (cloFrom cl lamS.names []))) := pe_lamx (c := c) TB rfl rfl rfl (ndef_free lam_in)
  refine ⟨_, (pss_cons (ps_if (pt_cmpR (kEqD (K := K) rfl hr.units) (pe_var (i := 3) rfl (.inr (.inr rfl))) (pe_lst pa_nil) (nomark _)) (pss_one (ps_expr (pe_fr (fun b => ok_place_from (base := b) S 1) (hr.mono (by omega)) rfl (glo_place_from S) (pa_cons (pe_var (i := 1) rfl (.inr (.inr rfl))) (pa_cons one (pa_cons (pe_tup (pa_cons pe_int (pa_cons pe_int pa_nil))) pa_nil)))))) pss_nil)
    (pss_cons (ps_expr (kBM (K := K) rfl PySem.F.plainAttrs_list PySem.F.slot_list_append PySem.F.type_list_append mt_append (pe_var (i := 3) rfl (.inr (.inr rfl))) (pa_cons (pe_var (i := 0) rfl (.inl rfl)) pa_nil)))
    (pss_one (ps_ret (pe_ix (kIxL (K := K) rfl) (pe_ix (kIxL (K := K) rfl) (pe_var (i := 2) rfl (.inr (.inr rfl))) (pe_ix (kIxT (K := K) rfl) (pe_var (i := 0) rfl (.inl rfl)) pe_int (fun _ _ => rfl)) (fun _ _ => rfl)) (pe_ix (kIxT (K := K) rfl) (pe_var (i := 0) rfl (.inl rfl)) pe_int (fun _ _ => rfl)) (fun _ _ => rfl)))))), ?_⟩
  tm_at "go"
  have tail : ∀ H5, KB P2 H H5 → TabS H5 P2 qLam → tSeq (tDrop (tBM K "list" rAppend (tVar 3) (tCons (tVar 0) tNil))) (tRet (tOp (rIxL K) (tOp (rIxL K) (tVar 2) (tOp (rIxT K) (tVar 0) (tC (V.int 0)))) (tOp (rIxT K) (tVar 0) (tC (V.int 1)))))
      { nx := fun _ H' => Q V.non H', rt := Q } (startF ["_law_place", "_law_plan", "_law_rows_here", "_law_told"] [V.ref t] [some (V.ref p), some (V.ref a), some (V.ref td)]) H5 := by
    intro H5 e50 t5
    have e5 := e50.extN j2
    have l5 : LOf H5 td ts qs cT := ⟨e5 _ _ j3.top (fun ps z => by cases z), fun i x e => e5 _ _ (j3.it i x e) (fun ps z => by unfold cT at z; cases z)⟩
    have ht5 : H5 t = some (cT q) := e5 _ _ ht (fun ps z => by unfold cT at z; cases z)
    have ntd : t ≠ td := fun z => by
      rw [z, l5.top] at ht5
      cases ht5
    tm_at "go"
    refine ⟨.inl ⟨rfl, _, SqL.of l5.top⟩, ?_⟩
    tm_at "go"
    refine ⟨td, _, _, rfl, rfl, l5.top, by rw [tab_len]; exact line_lt (by omega), ?_⟩
    have l6 := lof_snoc l5 ht5
    generalize hg6 : upd H5 td _ = H6 at l6
    have up6 : ∀ b o, H5 b = some o → b ≠ td → H6 b = some o := fun b o e n => by
      rw [← hg6, upd_ne n]
      exact e
    have j16 : KB2 td P2 H0 H6 := fun b o n1 n2 e => up6 b o (e50.all j2 n2 (j1 b o n1 n2 e)) n1
    have R6 := hR H6 fun b o e n1 n2 _ => j16 b o n1 (fun _ => n2) e
    have ht6 := up6 _ _ ht5 ntd
    dsimp only
    tm_at "go"
    refine gIxT (SqT.of ht6) (i := 0) rfl ?_
    refine gIxL (SqL.of R6.top) (at_tab q1) ?_
    tm_at "go"
    refine gIxT (SqT.of ht6) (i := 1) rfl ?_
    refine gIxL (SqL.of (R6.row _ q1)) (at_tab q2) ?_
    tm_at "go"
    refine hQ H6 ⟨j16, tabS_kept (N := (· = td)) t5 (fun b o e n => up6 b o e n) (fun b z o e => ⟨tab qs.length fun i => V.ref (ts i), Option.some.inj (e.symm.trans (by rw [show b = td from z]; exact l5.top))⟩), _, _, l6, by rw [List.length_append, j4]; rfl, fun x hx => ?_⟩ fun b o n1 n2 e => up6 b o (e50.all j2 n2 e) n1
    rcases List.mem_append.mp hx with z | z
    · exact j5 x z
    · rw [List.mem_singleton.mp z]
      exact hal
  refine ⟨szL rfl, fun D hD => ?_⟩
  generalize hg : upd _ _ _ = H1
  obtain ⟨s1, eD⟩ := newF hg hD
  refine ⟨_, _, dp_told (j3.same s1), Dp.lst (SqL.of eD) .nil, dPl_shaped qs, rfl, ?_⟩
  rw [eqv_nil]
  refine ⟨_, rfl, ?_⟩
  by_cases hn : qs = []
  · rw [if_pos (decide_eq_true hn)]
    tm_at "go"
    refine gFR ?_
    tm_at "go"
    refine ⟨j2.ext s1, fun f2 c2 H2 x2 nn2 T2 f0 f1 c1 => ?_⟩
    tm_at "go"
    refine ⟨szL rfl, fun t0 ht0 => ?_⟩
    generalize hg3 : upd H2 t0 _ = H3
    obtain ⟨s3, e3⟩ := newF hg3 ht0
    tm_at "go"
    have x13 : KB P2 H1 H3 := fun b o n e => s3 b o (x2 b o n e)
    have hD3 : Exts H3 [f2, c2] := fun b hb => by
      rcases List.mem_cons.mp hb with z | z
      · exact ⟨_, by rw [z]; exact s3 _ _ f1⟩
      · exact ⟨_, by rw [List.mem_singleton.mp z]; exact s3 _ _ c1⟩
    refine ⟨[f2, c2], hD3, fun b' mod' up' kn _ => ?_⟩
    have exP : Plain td H0 (delL H3 [f2, c2]) := fun b o e n1 n2 n3 => by
      have e2 := x13.all (j2.ext s1) (fun _ => n2) (s1 b o (j1 b o n1 (fun _ => n2) e))
      rw [delL_out (hD3.out e2 n3)]
      exact e2
    obtain ⟨oc, vc, tq, k1, k2, k3⟩ := kn c2 (by simp) _ (s3 _ _ c1)
    have t0f : t0 ∉ [f2, c2] := hD3.out e3 fun φ z => by cases z
    have z0 := (hP _ exP).sz
    have in0 : ∀ pls : List (Nat × Nat), (∀ x, x ∈ pls ↔ needM r (h, n) ws (· = (0, 0)) x) → ∀ x ∈ pls, x.1 < h ∧ x.2 < n := fun pls hp x hx => nd_in (c := (h, n)) (fun y (hy : y = (0, 0)) => by rw [hy]; exact ⟨z0.h1, z0.w1⟩) _ x ((hp x).mp hx)
    refine ⟨p, f2, t0, h, n, r, ws, (0, 0), p_lam a ra h n g, fun _ H' => Same (delL H3 [f2, c2]) H', fun _ => False, fun b => delL H3 [f2, c2] b ≠ none, fun y x => 3 - g y x, rfl, hP _ exP, fun H2 e2 => hP _ fun b o e n1 n2 n3 => e2 b o (exP b o e n1 n2 n3) id n2, ask_one (kn f2 (by simp) _ (s3 _ _ f1)) ⟨c2, oc, vc, tq, rfl, k1, k2, k3⟩ (cap_lam C up'),
      ⟨fun b o e => e, fun _ Ha Hb N j k hN b o e => k b o (j b o e) fun z => (hN b z).2 (by rw [e]; exact fun z => by cases z), fun b z => z.elim, fun b z => z, fun b z => z.elim⟩, (delL_out t0f).trans e3, ⟨z0.h1, z0.w1⟩,
      fun pls hp => ⟨fun k Ha tt qq QQ hk ja hta hqq cont => ⟨tt, qq, rfl, hR _ fun b o e n1 n2 n3 => ja b o (exP b o e n1 n2 n3), hta, (in0 pls hp qq hqq).1, (in0 pls hp qq hqq).2, cont Ha ja (ExtS.refl _ _)⟩, hb pls hp⟩, fun pls H' hp j' e' hn' => ?_⟩
    have s5 : Same H3 (putL H' [f2, c2] H3) := fun b o e => by
      by_cases hb2 : b ∈ [f2, c2]
      · rw [putL_in hb2]
        exact e
      · rw [putL_out hb2]
        exact j' b o ((delL_out hb2).trans e)
    exact tail _ (fun b o n e => s5 b o (x13 b o n (s1 b o e))) ((T2.ext s3).ext s5)
  · rw [if_neg (by rw [decide_eq_false hn]; exact Bool.false_ne_true)]
    exact gNext (tail _ (fun b o _ e => s1 b o e) (j2.ext s1))
end
end Kp
/-! what a reading tells -/
namespace Kp
open PySem PySem.Spec L2 TL
abbrev oAt (h w : Nat) (ws : List L) (j : Nat) : Nat × Nat := (orderM (h, w) ws).getD j (0, 0)
structure ReadQ (K : PySem.W.Frag) (H : Hp) (p : Addr) (h w : Nat) (r : Rl) (ws : List L) (g : G2) (Q2 : Nat → Nat → Nat) : Prop where
  at_ : ∃ (c : RdC) (cu : Nat) (e : Bool) (to : Nat → Addr), c.p = p ∧ H p = some (.ins (He.ga K "Reading") c.dx (fRe c cu e)) ∧ PlanAt K H c.d h w r ws ∧ LOf H c.o to (orderM (h, w) ws) cT ∧
    H c.a = some (.lst (tab (h * w) fun j => .int (amt (Q2 (oAt h w ws j).1 (oAt h w ws j).2) (g (oAt h w ws j).1 (oAt h w ws j).2) : Int))) ∧
    H c.b = some (.lst (tab (h * w) fun j => .bl (mns (Q2 (oAt h w ws j).1 (oAt h w ws j).2) (g (oAt h w ws j).1 (oAt h w ws j).2)))) ∧ H c.l = some (.lst (tab (h * w) fun j => .int (Q2 (oAt h w ws j).1 (oAt h w ws j).2 : Int)))
  le : ∀ y x, Q2 y x ≤ 30
theorem ReadQ.keep {K : PySem.W.Frag} {H H' : Hp} {p : Addr} {h n : Nat} {r : Rl} {ws : List L} {g : G2} {Q2 : Nat → Nat → Nat} (x : ReadQ K H p h n r ws g Q2) (s : Same H H') : ReadQ K H' p h n r ws g Q2 := by
  obtain ⟨c, cu, e, to, e1, e2, e3, e4, e5, e6, e7⟩ := x.at_
  exact ⟨⟨c, cu, e, to, e1, s _ _ e2, e3.same s, e4.same s, s _ _ e5, s _ _ e6, s _ _ e7⟩, x.le⟩
theorem ReadAt.q {K : PySem.W.Frag} {H : Hp} {p : Addr} {h n : Nat} {r : Rl} {ws : List L} {g : G2} (x : ReadAt K H p h n r ws g) : ∃ Q2, ReadQ K H p h n r ws g Q2 := by
  obtain ⟨c, cu, e, q, to, e1, e2, e3, e4, e5, e6, e7, e8, e9⟩ := x.at_
  have lenO : (orderM (h, n) ws).length = h * n := order_len
  have key : ∀ j, j < h * n → (orderM (h, n) ws).idxOf (oAt h n ws j) = j ∧ c.n j = g (oAt h n ws j).1 (oAt h n ws j).2 := fun j hj => by
    have hl : j < (orderM (h, n) ws).length := by omega
    have eo : oAt h n ws j = (orderM (h, n) ws)[j] := by
      show (orderM (h, n) ws).getD j (0, 0) = _
      rw [List.getD_eq_getElem?_getD, List.getElem?_eq_getElem hl]
      rfl
    refine ⟨?_, ?_⟩
    · rw [eo]
      exact order_nodup.idxOf_getElem j hl
    · show c.ns.getD j 0 = _
      rw [e8, List.getD_eq_getElem?_getD, List.getElem?_map, List.getElem?_eq_getElem hl, eo]
      rfl
  refine ⟨fun y x => q ((orderM (h, n) ws).idxOf (y, x)), ⟨c, cu, e, to, e1, e2, e3, e4, ?_, ?_, ?_⟩, fun y x => e9 _⟩
  · rw [e5]
    refine congrArg (fun l => some (HO.lst l)) (tab_congr fun j hj => ?_)
    rw [show ((oAt h n ws j).1, (oAt h n ws j).2) = oAt h n ws j from rfl, (key j hj).1, (key j hj).2]
  · rw [e6]
    refine congrArg (fun l => some (HO.lst l)) (tab_congr fun j hj => ?_)
    rw [show ((oAt h n ws j).1, (oAt h n ws j).2) = oAt h n ws j from rfl, (key j hj).1, (key j hj).2]
  · rw [e7]
    refine congrArg (fun l => some (HO.lst l)) (tab_congr fun j hj => ?_)
    rw [show ((oAt h n ws j).1, (oAt h n ws j).2) = oAt h n ws j from rfl, (key j hj).1]
theorem rdv_if (q : Nat) (n : Int) : (if mns q n = true then 0 - (amt q n : Int) else (amt q n : Int)) = rdv q n := by
  unfold mns rdv
  by_cases h : n < 0
  · by_cases z : amt q n = 0
    · rw [decide_eq_true h, z]
      simp [h]
    · rw [decide_eq_true h, decide_eq_true z, if_pos (show (true && true) = true from rfl), if_pos h]
      omega
  · rw [decide_eq_false h, if_neg h]
    rfl
def p_Reading_plan (K : PySem.W.Frag) : Pm := fun vs H Q => ∃ (p : Addr) (h w : Nat) (r : Rl) (ws : List L) (g : G2) (Q2 : Nat → Nat → Nat), vs = [.ref p] ∧ ReadQ K H p h w r ws g Q2 ∧ ∀ d, PlanAt K H d h w r ws → Q (.ref d) H
def p_Reading_laid (K : PySem.W.Frag) : Pm := fun vs H Q => ∃ (p a : Addr) (h w : Nat) (r : Rl) (ws : List L) (g : G2) (Q2 : Nat → Nat → Nat) (G : G2), vs = [.ref p, .ref a] ∧ ReadQ K H p h w r ws g Q2 ∧ H a = some (.lst (tab (h * w) fun j => .int (G (oAt h w ws j).1 (oAt h w ws j).2))) ∧ Bd 999999999999999 h w G ∧
  ∀ x H', Same H H' → FieldAt K H' x h w G → Q (.ref x) H'
def p_Reading_nums (K : PySem.W.Frag) (F : (Nat → Nat → Nat) → G2 → G2) : Pm := fun vs H Q => ∃ (p : Addr) (h w : Nat) (r : Rl) (ws : List L) (g : G2) (Q2 : Nat → Nat → Nat), vs = [.ref p] ∧ ReadQ K H p h w r ws g Q2 ∧ Bd 1000000000 h w g ∧
  ∀ x H', Same H H' → FieldAt K H' x h w (F Q2 g) → Q (.ref x) H'
def numF (Q2 : Nat → Nat → Nat) (g : G2) : G2 := fun y x => rdv (Q2 y x) (g y x)
def unrF (Q2 : Nat → Nat → Nat) (_ : G2) : G2 := fun y x => 2 ^ Q2 y x - 1
section
variable {P : Program} {w : World} {K : PySem.W.Frag} {mg : Str → Option Value} {base : Heap}
theorem ok_Reading_plan (S : TX K mg) : OkF P w K mg base 1 (He.ma K (He.ga K "Reading") "plan") (p_Reading_plan K) := by
  refine okF (F_Reading_plan S) sc_Reading_plan (by tm_at "len") (fun _ _ _ _ _ _ us hl => match us, hl with | [_], _ => rfl) (fun cdv A outer s H vs Q E hr h => ?_)
  obtain ⟨p, h, n, r, ws, g, Q2, rfl, ⟨⟨c, cu, e, to, rfl, e2, e3, e4, e5, e6, e7⟩, le⟩, q⟩ := h
  refine ⟨_, (pss_one (ps_ret (kFld (K := K) rfl (pv 0) rfl))), ?_⟩
  tm_at "go"
  exact gFldE e2 (cls_Reading S) (na_Reading_design S) rfl (q _ e3)
theorem ok_Reading_laid (S : TX K mg) : OkF P w K mg base 6 (He.ma K (He.ga K "Reading") "laid") (p_Reading_laid K) := by
  refine okF (F_Reading_laid S) sc_Reading_laid (by tm_at "len") (fun _ _ _ _ _ _ us hl => match us, hl with | [_, _], _ => rfl) (fun cdv A outer s H vs Q E hr h => ?_)
  obtain ⟨p, a, h, n, r, ws, g, Q2, G, rfl, ⟨⟨c, cu, e, to, rfl, e2, Pl, lo, e5, e6, e7⟩, le⟩, ea, hb, q⟩ := h
  refine ⟨_, (pss_cons (ps_setLc (i := 2) (own := [("row", 5)]) (g := gName 5) (tt := tYes)  rfl sc_Reading_laid.nd rfl rfl (sw_true rfl rfl rfl (by decide +kernel)) (pi_range1 rfl (fr_range S) (pa_cons (pe_mt0 (kFld (K := K) rfl (pv 0) rfl) (cls_Plan S) (me_Plan_height S) (ok_Plan_height S) (hr.mono (by decide))) pa_nil)) (blkOk_by (own := [("row", 5)]) (N := ["self", "told", "rows", "place", "number", "row"]) (sc := defScope s_Reading_laid) (by decide +kernel)) (fun _ _ _ _ _ => (pg_name (i := 5) sc_Reading_laid.nd rfl (Or.inl rfl))) (fun _ _ _ _ _ => pts_nil) (fun _ _ _ _ _ => (pe_op op_rep (pe_lst (pa_cons pe_int pa_nil)) (pe_mt0 (kFld (K := K) rfl (pv 0) rfl) (cls_Plan S) (me_Plan_width S) (ok_Plan_width S) (hr.mono (by decide))))))
    (pss_cons (ps_for PassesOwn.never rfl (kZip (K := K) rfl rfl (fr_zip S) (pa_cons (kFld (K := K) rfl (pv 0) rfl) (pa_cons (pv 1) pa_nil))) (kPTup (K := K) (n := 2) rfl rfl (pgs_cons (pg_name (i := 3) sc_Reading_laid.nd rfl (Or.inl rfl)) (pgs_cons (pg_name (i := 4) sc_Reading_laid.nd rfl (Or.inl rfl)) pgs_nil))) (pss_one (ps_asg (pv 4) (pg_sub (pe_ix (kIxL (K := K) rfl) (pv 2) (pe_ix (kIxT (K := K) rfl) (pv 3) pe_int (fun _ _ => rfl)) (fun _ _ => rfl)) (pe_ix (kIxT (K := K) rfl) (pv 3) pe_int (fun _ _ => rfl)) set_list))))
    (pss_one (ps_ret (pe_mk (mkr_Field S) (ok_Field_init S) (hr.mono (by decide)) rfl (glo_Field S) (pa_cons (pv 2) pa_nil)))))), ?_⟩
  have Pl0 := Pl
  obtain ⟨⟨dx, ru, ca, tc, hp, hr1, cc⟩, z, ok⟩ := Pl0
  have zh := z.h2
  have zw := z.w2
  have hw := z.hw
  have lenO : (orderM (h, n) ws).length = h * n := order_len
  tm_at "go"
  refine gFldE e2 (cls_Reading S) (na_Reading_design S) rfl ?_
  refine gMeE hp rfl ?_
  tm_at "go"
  refine ⟨c.d, h, n, r, ws, rfl, Pl, ?_⟩
  refine gR1 (by omega) ?_
  rw [Int.toNat_natCast]
  intro D hD
  refine lcIt (wRange (m := h)) (fun i H' => ∃ rb, NewL H H' D i rb fun _ => .lst (irow n fun _ => 0)) ⟨fun _ => 0, NewL.nil hD⟩ (fun _ _ _ _ => trivial) ?_ ?_
  · rintro i x H1 H2 hi ⟨rb, N⟩ ⟨rfl, rfl⟩
    tm_at "go"
    refine ⟨rfl, ?_⟩
    tm_at "go"
    refine ⟨szL rfl, fun e he => ?_⟩
    generalize hg : upd _ _ _ = H3
    obtain ⟨s3, e3⟩ := newF hg he
    tm_at "go"
    refine gFldE (s3 _ _ (N.same _ _ e2)) (cls_Reading S) (na_Reading_design S) rfl ?_
    refine gMeE (s3 _ _ (N.same _ _ hp)) rfl ?_
    tm_at "go"
    refine ⟨c.d, h, n, r, ws, rfl, (Pl.same N.same).same s3, ?_⟩
    refine ⟨e, _, _, rfl, rfl, e3, by omega, by omega, by rw [Int.toNat_natCast]; exact line_le (by show 1 * n ≤ _; omega), fun l hl => ?_⟩
    rw [Int.toNat_natCast, tab_flat]
    have N3 := N.same' s3
    exact ⟨_, get_new hl N3.top, by rw [tab_len]; exact line_lt (by omega), _, N3.push hl upd_same (Same.new hl)⟩
  rintro H1 ⟨rb, N⟩
  have R1 : RowsX H1 D rb h n (maskL [] G) := (RowsX.of N).congr fun y x _ _ => (if_neg List.not_mem_nil).symm
  tm_at "go"
  refine gFldE (N.same _ _ e2) (cls_Reading S) (na_Reading_ordered S) rfl ?_
  tm_at "go"
  refine gZ1 (SqL.of (N.same _ _ lo.top)) (SqL.of (N.same _ _ ea)) ?_
  refine forIt (wZip2 (m := h * n) (by omega)) (fun i σ H' => Same H H' ∧ RowsX H' D rb h n (maskL ((orderM (h, n) ws).take i) G) ∧ ∃ v1 v2 v3, σ = [some (.ref c.p), some (.ref a), some (.ref D), v1, v2, v3]) ⟨N.same, R1, none, none, none, rfl⟩ (fun i σ H' _ z => ⟨SqL.of (z.1 _ _ lo.top), SqL.of (z.1 _ _ ea)⟩) ?_ ?_
  · rintro i x σ H2 H3 hi ⟨s2, R2, v1, v2, v3, rfl⟩ ⟨T0, rfl, hT, s3, eT⟩
    have hq : (orderM (h, n) ws)[i]? = some (orderM (h, n) ws)[i] := List.getElem?_eq_getElem (by omega)
    have eo : oAt h n ws i = (orderM (h, n) ws)[i] := by
      show (orderM (h, n) ws).getD i (0, 0) = _
      rw [List.getD_eq_getElem?_getD, hq]
      rfl
    dsimp only at eT
    rw [eo] at eT
    have et := s3 _ _ (s2 _ _ (lo.it i _ hq))
    obtain ⟨q1, q2⟩ := order_mem.mp (List.mem_of_getElem? hq)
    have tm := fun x => take_mem (x := x) hq
    generalize (orderM (h, n) ws)[i] = qq at *
    have R3 := R2.same s3
    refine gTp (SqT.of eT) rfl ?_
    tm_at "go"
    refine gIxT (SqT.of et) (i := 0) rfl ?_
    refine gIxL (SqL.of R3.rows.top) (at_tab q1) ?_
    tm_at "go"
    refine gIxT (SqT.of et) (i := 1) rfl ?_
    refine ⟨rb qq.1, _, _, qq.2, rfl, rfl, R3.rows.row _ q1, ix_tab q2, ?_⟩
    refine ⟨(s2.trans s3).mut (N.fr _ q1), R3.put q1 (g' := maskL ((orderM (h, n) ws).take (i + 1)) G) ?_ fun z x hz nz _ => ?_, _, _, _, rfl⟩
    · unfold irow
      rw [tab_set]
      refine tab_congr fun x _ => ?_
      unfold maskL
      by_cases ex : x = qq.2
      · rw [if_pos ex, if_pos ((tm _).mpr (.inr (Prod.ext rfl ex : (qq.1, x) = qq))), ex]
      · rw [if_neg ex]
        by_cases m : (qq.1, x) ∈ (orderM (h, n) ws).take i
        · rw [if_pos m, if_pos ((tm _).mpr (.inl m))]
        · rw [if_neg m, if_neg (fun m2 => ((tm _).mp m2).elim m fun e => ex (congrArg Prod.snd e))]
    · unfold maskL
      by_cases m : (z, x) ∈ (orderM (h, n) ws).take i
      · rw [if_pos m, if_pos ((tm _).mpr (.inl m))]
      · rw [if_neg m, if_neg (fun m2 => ((tm _).mp m2).elim m fun e => nz (congrArg Prod.fst e))]
  · rintro σ H2 ⟨s2, R2, v1, v2, v3, rfl⟩
    have R2 : RowsX H2 D rb h n G := R2.congr fun y x hy hx => by
      unfold maskL
      rw [if_pos]
      rw [← lenO, List.take_length]
      exact order_mem.mpr ⟨hy, hx⟩
    tm_at "go"
    exact fun x dx hx hdx nx => mkField R2.rows z hb (fun x H4 s4 fx F4 => q x H4 (s2.trans s4) F4) hx hdx nx
theorem ok_Reading_numbers (S : TX K mg) : OkF P w K mg base 7 (He.ma K (He.ga K "Reading") "numbers") (p_Reading_nums K numF) := by
  refine okF (F_Reading_numbers S) sc_Reading_numbers (by tm_at "len") (fun _ _ _ _ _ _ us hl => match us, hl with | [_], _ => rfl) (fun cdv A outer s H vs Q E hr h => ?_)
  obtain ⟨p, h, n, r, ws, g, Q2, rfl, R, hb, q⟩ := h
  refine ⟨_, (pss_cons (ps_set (i := 1) sc_Reading_numbers.nd rfl (Or.inl rfl) (pe_lst pa_nil))
    (pss_cons (ps_for PassesOwn.never rfl (kZip (K := K) rfl rfl (fr_zip S) (pa_cons (kFld (K := K) rfl (pv 0) rfl) (pa_cons (kFld (K := K) rfl (pv 0) rfl) pa_nil))) (kPTup (K := K) (n := 2) rfl rfl (pgs_cons (pg_name (i := 2) sc_Reading_numbers.nd rfl (Or.inl rfl)) (pgs_cons (pg_name (i := 3) sc_Reading_numbers.nd rfl (Or.inl rfl)) pgs_nil))) (pss_one (ps_expr (kBM (K := K) rfl PySem.F.plainAttrs_list PySem.F.slot_list_append PySem.F.type_list_append mt_append (pv 1) (pa_cons (pe_ix (kIxL (K := K) rfl) (pe_lst (pa_cons (pv 2) (pa_cons (pe_op op_sub pe_int (pv 2)) pa_nil))) (pe_callTy call_int1 rfl (fr_int S) bt_int (pa_cons (pv 3) pa_nil)) (fun _ _ => rfl)) pa_nil)))))
    (pss_one (ps_ret (pe_mt (pv 0) (cls_Reading S) (me_Reading_laid S) (ok_Reading_laid S) (hr.mono (by decide)) (pa_cons (pv 1) pa_nil)))))), ?_⟩
  obtain ⟨⟨c, cu, e, to, rfl, e2, Pl, lo, e5, e6, e7⟩, le⟩ := id R
  have hw := Pl.sz.hw
  tm_at "go"
  refine ⟨szL rfl, fun D hD => ?_⟩
  have s0 : Same H (upd H D (.lst [])) := Same.new hD
  tm_at "go"
  refine gFldE (s0 _ _ e2) (cls_Reading S) (na_Reading_amounts S) rfl ?_
  tm_at "go"
  refine gFldE (s0 _ _ e2) (cls_Reading S) (na_Reading_minus S) rfl ?_
  tm_at "go"
  refine gZ1 (SqL.of (s0 _ _ e5)) (SqL.of (s0 _ _ e6)) ?_
  refine forIt (wZip2 (m := h * n) (by omega)) (fun i σ H' => Same H H' ∧ H' D = some (.lst (tab i fun j => .int (numF Q2 g (oAt h n ws j).1 (oAt h n ws j).2))) ∧ ∃ v1 v2, σ = [some (.ref c.p), some (.ref D), v1, v2]) ⟨s0, upd_same, none, none, rfl⟩ (fun i σ H' _ z => ⟨SqL.of (z.1 _ _ e5), SqL.of (z.1 _ _ e6)⟩) ?_ ?_
  · rintro i x σ H2 H3 hi ⟨s2, eD, v1, v2, rfl⟩ ⟨T0, rfl, hT, s3, eT⟩
    refine gTp (SqT.of eT) rfl ?_
    have eD3 := s3 _ _ eD
    tm_at "go"
    refine ⟨.inl ⟨rfl, _, SqL.of eD3⟩, ?_⟩
    tm_at "go"
    refine ⟨szL rfl, fun L hL => ?_⟩
    generalize hg : upd _ _ _ = H4
    obtain ⟨s4, eL⟩ := newF hg hL
    tm_at "go"
    refine .inr ⟨_, rfl, ?_⟩
    have pick : ∀ {b : Bool} {i j : Int}, atI [V.int i, V.int j] (if b = true then 1 else 0) = some (.int (if b = true then j else i)) := fun {b i j} => by cases b <;> rfl
    refine gIxL (SqL.of eL) pick ?_
    rw [rdv_if]
    tm_at "go"
    refine ⟨D, _, _, rfl, rfl, s4 _ _ eD3, by rw [tab_len]; exact line_lt (by omega), ((s2.trans s3).trans s4).mut hD, ?_, _, _, rfl⟩
    rw [upd_same, ← tab_snoc]
    rfl
  · rintro σ H2 ⟨s2, eD, v1, v2, rfl⟩
    tm_at "go"
    refine gMeE (s2 _ _ e2) rfl ?_
    tm_at "go"
    exact ⟨c.p, D, h, n, r, ws, g, Q2, numF Q2 g, rfl, R.keep s2, eD, fun y x hy hx => by have := rdv_in (q := Q2 y x) (hb y x hy hx); unfold numF; omega, fun x H' s' F => q x H' (s2.trans s') F⟩
theorem ok_Reading_unread (S : TX K mg) : OkF P w K mg base 7 (He.ma K (He.ga K "Reading") "unread") (p_Reading_nums K unrF) := by
  refine okF (F_Reading_unread S) sc_Reading_unread (by tm_at "len") (fun _ _ _ _ _ _ us hl => match us, hl with | [_], _ => rfl) (fun cdv A outer s H vs Q E hr h => ?_)
  obtain ⟨p, h, n, r, ws, g, Q2, rfl, R, hb, q⟩ := h
  refine ⟨_, (pss_one (ps_ret (pe_mt (pv 0) (cls_Reading S) (me_Reading_laid S) (ok_Reading_laid S) (hr.mono (by decide)) (pa_cons (pe_lc (own := [("many", 1)]) (g := gName 1) (tt := tYes) rfl sc_Reading_unread.nd (kList (K := K) rfl (kFld (K := K) rfl (pv 0) rfl)) (blkOk_by (own := [("many", 1)]) (N := ["self", "many"]) (sc := defScope s_Reading_unread) (by decide +kernel)) (fun _ _ _ _ _ => (pg_name (i := 1) sc_Reading_unread.nd rfl (Or.inl rfl))) (fun _ _ _ _ _ => pts_nil) (fun _ _ _ _ _ => (pe_op op_sub (pe_op op_shl pe_int (pv 1)) pe_int))) pa_nil)))), ?_⟩
  obtain ⟨⟨c, cu, e, to, rfl, e2, Pl, lo, e5, e6, e7⟩, le⟩ := id R
  have hw := Pl.sz.hw
  have pw : ∀ k, k ≤ 30 → (1 : Int) ≤ 2 ^ k ∧ (2 : Int) ^ k ≤ 1073741824 := fun k hk => by
    have h1 := Nat.pow_le_pow_right (show 0 < 2 by decide) hk
    have h2 := Nat.two_pow_pos k
    have h3 : ((2 ^ k : Nat) : Int) = (2 : Int) ^ k := by simp
    have h4 : (2 : Nat) ^ 30 = 1073741824 := by decide
    omega
  tm_at "go"
  refine gMeE e2 rfl ?_
  tm_at "go"
  refine gFldE e2 (cls_Reading S) (na_Reading_lacking S) rfl ?_
  refine gL1 (SqL.of e7) ?_
  intro D hD
  refine lcIt (wTab (m := h * n) (f := fun j => .int (Q2 (oAt h n ws j).1 (oAt h n ws j).2 : Int))) (fun i H' => Same H H' ∧ H' D = some (.lst (tab i fun j => .int (unrF Q2 g (oAt h n ws j).1 (oAt h n ws j).2)))) ⟨Same.new hD, upd_same⟩ (fun i H' _ z => SqL.of (z.1 _ _ e7)) ?_ ?_
  · rintro i x H2 H3 hi ⟨s2, eD⟩ ⟨rfl, rfl⟩
    tm_at "go"
    refine ⟨rfl, ?_⟩
    tm_at "go"
    refine gI ⟨by omega, by have := le (oAt h n ws i).1 (oAt h n ws i).2; omega, by decide⟩ ?_
    tm_at "go"
    refine ⟨_, eD, by rw [tab_len]; exact line_lt (by omega), s2.mut hD, ?_⟩
    rw [upd_same, ← tab_snoc]
    unfold unrF
    rw [Int.toNat_natCast, Int.one_mul]
  · rintro H2 ⟨s2, eD⟩
    tm_at "go"
    exact ⟨c.p, D, h, n, r, ws, g, Q2, unrF Q2 g, rfl, R.keep s2, eD, fun y x hy hx => by have := pw _ (le y x); unfold unrF; omega, fun x H' s' F => q x H' (s2.trans s') F⟩
def p_read_signs (K : PySem.W.Frag) : Pm := fun vs H Q => ∃ (h w : Nat) (r : Rl) (ws : List L) (m k : Nat) (g : G2), vs = [.str (T (headT h w r ws m ++ (bodyT m ((orderM (h, w) ws).map fun x => g x.1 x.2) m).take k))] ∧ Sz h w ∧ WOk (h, w) ws ∧ ws.length ≤ 126 ∧ m ≤ 30 ∧ (∀ y x, y < h → x < w → (g y x).natAbs < 2 ^ m) ∧
  ∀ p Q2 H', Same H H' → ReadQ K H' p h w r ws g Q2 → ReadN K H' p (fun b => H b ≠ none) → Q (.ref p) H'
theorem ok_read_signs (S : TX K mg) : OkF P w K mg base 8 (He.ga K "read_signs") (p_read_signs K) := by
  refine okF (F_read_signs S) sc_read_signs (by tm_at "len") (fun _ _ _ _ _ _ us hl => match us, hl with | [_], _ => rfl) (fun cdv A outer s H vs Q E hr h => ?_)
  obtain ⟨h, n, r, ws, m, k, g, rfl, z, ok, wl, hm, hg, q⟩ := h
  refine ⟨_, (pss_cons (ps_if (pt_not (pt_val (pe_callB (kIsi (K := K) rfl) rfl (fr_isinstance S) bt_isinstance (pa_cons (pv 0) (pa_cons (pe_bltn (v := .ty "str") rfl (fr_str S) bt_str rfl) pa_nil))))) (pss_one ps_never) pss_nil)
    (pss_cons (ps_set (i := 1) sc_read_signs.nd rfl (Or.inl rfl) (pe_f (ok_head_in S) (hr.mono (by decide)) rfl (glo_head_in S) (pa_cons (pv 0) pa_nil)))
    (pss_cons (ps_if (pt_cmpR op_isN (pv 1) pe_non (nomark _)) (pss_one ps_never) pss_nil)
    (pss_one (ps_ret (pe_mk (mkr_Reading S) (ok_Reading_init S) (hr.mono (by decide)) rfl (glo_Reading S) (pa_cons (pv 0) (pa_cons (pe_ix (kIxT (K := K) rfl) (pv 1) pe_int (fun _ _ => rfl)) (pa_cons (pe_ix (kIxT (K := K) rfl) (pv 1) pe_int (fun _ _ => rfl)) (pa_cons (pe_ix (kIxT (K := K) rfl) (pv 1) pe_int (fun _ _ => rfl)) pa_nil)))))))))), ?_⟩
  have pl := preT_le (h := h) (w := n) (r := r) (m := m) z.h2 z.w2 hm wl
  have hl : (headT h n r ws m).length = (preT h n r ws m).length + 3 := by
    unfold headT chk2
    simp only [List.length_append, List.length_cons, List.length_nil]
  have hw := z.hw
  have lenO : ((orderM (h, n) ws).map fun x => g x.1 x.2).length = h * n := by rw [List.length_map]; exact order_len
  have bl := bodyT_len (m := m) (ns := (orderM (h, n) ws).map fun x => g x.1 x.2) m
  have b1 : m * (2 * ((orderM (h, n) ws).map fun x => g x.1 x.2).length + 3) ≤ 30 * 1027 := Nat.mul_le_mul (by omega) (by omega)
  have bk : ((bodyT m ((orderM (h, n) ws).map fun x => g x.1 x.2) m).take k).length ≤ 31000 := by rw [List.length_take]; omega
  tm_at "go"
  refine ⟨h, n, r, ws, m, _, rfl, z, ok, wl, hm, by omega, fun t p H1 s1 Pl et => ?_⟩
  tm_at "go"
  refine ⟨rfl, ?_⟩
  tm_at "go"
  refine gIxT (SqT.of et) (i := 0) rfl ?_
  tm_at "go"
  refine gIxT (SqT.of et) (i := 1) rfl ?_
  tm_at "go"
  refine gIxT (SqT.of et) (i := 2) rfl ?_
  tm_at "go"
  intro x dx hx hdx nx
  have up : ∀ H', Kept (· = x) (upd (upd H1 dx (.own x)) x (.ins (He.ga K "Reading") dx [])) H' → Same H1 H' := fun H' k b o e => by
    have nb := ne_of_none e hx
    refine k b o ?_ nb
    rw [upd_ne nb, upd_ne (ne_of_none e hdx)]
    exact e
  refine ⟨x, dx, p, _, headT h n r ws m, m, h, n, r, ws, g, rfl, upd_same, fun H' k => Pl.same (up H' k), hm, by rw [List.length_append]; omega, hg, List.prefix_append _ _, cut_pre, fun H' k R RN => ⟨rfl, ?_⟩⟩
  obtain ⟨Q2, RQ⟩ := R.q
  refine q x Q2 H' (s1.trans (up H' k)) RQ ?_
  obtain ⟨c, cu, e, a1, a2, a3, a4⟩ := RN
  have on : ∀ b, H b ≠ none → upd (upd H1 dx (.own x)) x (.ins (He.ga K "Reading") dx []) b ≠ none := fun b hb => by
    cases e0 : H b with
    | none => exact absurd e0 hb
    | some o =>
      have e1 := s1 _ _ e0
      rw [upd_ne (ne_of_none e1 hx), upd_ne (ne_of_none e1 hdx), e1]
      exact fun z => by cases z
  exact ⟨c, cu, e, a1, a2, fun z => a3 (on _ z), fun z => a4 (on _ z)⟩
end
end Kp
/-! the answerer handed on: what stands in the callee's base, what is known behind -/
namespace Kp
open PySem PySem.Spec PyProof.Rows L2 LamX NdefX
section
variable {P : Program} {w : World} {K : PySem.W.Frag} {mg : Str → Option Value} {base : Heap}
/-- what the answerer and its cells are at -/
abbrev own5 (f c' k1 k2 k3 : Addr) : List Addr := [f, c', k1, k2, k3]
theorem plan_stay {H H' : Hp} {p td : Addr} {h n : Nat} {r : Rl} {ws : List L} (Pl : PlanAt K H p h n r ws) (ht : H td = some (.lst [])) (k : ∀ b o, H b = some o → b ≠ td → (∀ ps, o ≠ .tbl ps) → (∀ φ, o ≠ .ext φ) → H' b = some o) : PlanAt K H' p h n r ws := by
  obtain ⟨⟨dx, ru, ca, ta, hp, ⟨rx, hr⟩, c⟩, z, ok⟩ := Pl
  have nt : ∀ {b : Addr} {o : HO}, H b = some o → o ≠ .lst [] → b ≠ td := fun {b o} e n z => by
    rw [z, ht] at e
    exact n (Option.some.inj e).symm
  have ki : ∀ {b C dx : Addr} {fs : List (Str × V)}, H b = some (.ins C dx fs) → H' b = some (.ins C dx fs) := fun e => k _ _ e (nt e (fun z => by cases z)) (fun _ z => by cases z) (fun _ z => by cases z)
  have kt : ∀ {b : Addr} {xs : List V}, H b = some (.tup xs) → H' b = some (.tup xs) := fun e => k _ _ e (nt e (fun z => by cases z)) (fun _ z => by cases z) (fun _ z => by cases z)
  have kl : ∀ {b : Addr} {xs : List V}, H b = some (.lst xs) → xs ≠ [] → H' b = some (.lst xs) := fun e n => k _ _ e (nt e (fun z => n (by injection z))) (fun _ z => by cases z) (fun _ z => by cases z)
  refine ⟨⟨dx, ru, ca, ta, ki hp, ⟨rx, ki hr⟩, ⟨kl c.top (fun z => ?_), fun i hi => kt (c.it i hi)⟩⟩, z, ok⟩
  have := congrArg List.length z
  rw [tab_len] at this
  cases this
theorem plan_stay' {H H' : Hp} {p : Addr} {h n : Nat} {r : Rl} {ws : List L} (Pl : PlanAt K H p h n r ws) (k : ∀ b o, H b = some o → (∀ ps, o ≠ .tbl ps) → H' b = some o) : PlanAt K H' p h n r ws := by
  obtain ⟨⟨dx, ru, ca, ta, hp, ⟨rx, hr⟩, c⟩, z, ok⟩ := Pl
  exact ⟨⟨dx, ru, ca, ta, k _ _ hp (fun _ z => by cases z), ⟨rx, k _ _ hr (fun _ z => by cases z)⟩, ⟨k _ _ c.top (fun _ z => by cases z), fun i hi => k _ _ (c.it i hi) (fun _ z => by unfold cT at z; cases z)⟩⟩, z, ok⟩
theorem rows_stay' {H H' : Hp} {a : Addr} {ra : Nat → Addr} {h n : Nat} {g : G2} (R : Rows H a ra h n g) (k : ∀ b o, H b = some o → (∀ ps, o ≠ .tbl ps) → H' b = some o) : Rows H' a ra h n g := ⟨k _ _ R.top (fun _ z => by cases z), fun y hy => k _ _ (R.row y hy) (fun _ z => by cases z)⟩
theorem field_stay' {H H' : Hp} {p : Addr} {h n : Nat} {g : G2} (F : FieldAt K H p h n g) (k : ∀ b o, H b = some o → (∀ ps, o ≠ .tbl ps) → H' b = some o) : FieldAt K H' p h n g := by
  obtain ⟨⟨dx, a, ra, e, R⟩, z, b⟩ := F
  exact ⟨⟨dx, a, ra, k _ _ e (fun _ z => by cases z), rows_stay' R k⟩, z, b⟩
theorem rows_stay {H H' : Hp} {a td : Addr} {ra : Nat → Addr} {h n : Nat} {g : G2} (R : Rows H a ra h n g) (z : Sz h n) (ht : H td = some (.lst [])) (k : ∀ b o, H b = some o → b ≠ td → (∀ ps, o ≠ .tbl ps) → (∀ φ, o ≠ .ext φ) → H' b = some o) : Rows H' a ra h n g := by
  have nt : ∀ {b : Addr} {m : Nat} {f : Nat → V}, H b = some (.lst (tab m f)) → 1 ≤ m → b ≠ td := fun {b m f} e hm z => by
    rw [z, ht] at e
    injection e with e
    injection e with e
    have := congrArg List.length e
    rw [tab_len] at this
    simp at this
    omega
  exact ⟨k _ _ R.top (nt R.top z.h1) (fun _ z => by cases z) (fun _ z => by cases z), fun y hy => k _ _ (R.row y hy) (nt (R.row y hy) z.w1) (fun _ z => by cases z) (fun _ z => by cases z)⟩
/-- all that is known of an answerer made -/
structure AnsIn (K : PySem.W.Frag) (H1 : Hp) (f c' P2 k1 k2 k3 : Addr) (cl : List (Str × Addr)) (p a td : Addr) (ra : Nat → Addr) (h n : Nat) (r : Rl) (ws : List L) (g : G2) : Prop where
  as : Asked K H1 f c' P2 k1 k2 k3 cl (.ref p) (.ref a) (.ref td)
  pl : PlanAt K H1 p h n r ws
  rows : Rows H1 a ra h n g
  told : H1 td = some (.lst [])
  shp : Shp (h, n)
  bd : Bd 999999997 h n g
theorem AnsIn.exts {H1 : Hp} {f c' P2 k1 k2 k3 : Addr} {cl : List (Str × Addr)} {p a td : Addr} {ra : Nat → Addr} {h n : Nat} {r : Rl} {ws : List L} {g : G2} (A : AnsIn K H1 f c' P2 k1 k2 k3 cl p a td ra h n r ws g) : Exts H1 (own5 f c' k1 k2 k3) := fun b hb => by
  simp only [List.mem_cons, List.not_mem_nil, or_false] at hb
  rcases hb with rfl | rfl | rfl | rfl | rfl
  · exact ⟨_, A.as.fn⟩
  · exact ⟨_, A.as.code⟩
  · exact ⟨_, A.as.c1⟩
  · exact ⟨_, A.as.c2⟩
  · exact ⟨_, A.as.c3⟩
theorem AnsIn.out_code {H1 : Hp} {f c' P2 k1 k2 k3 : Addr} {cl : List (Str × Addr)} {p a td : Addr} {ra : Nat → Addr} {h n : Nat} {r : Rl} {ws : List L} {g : G2} (A : AnsIn K H1 f c' P2 k1 k2 k3 cl p a td ra h n r ws g) {base' : Heap}
    (kn : ∀ b ∈ own5 f c' k1 k2 k3, ∀ φ, H1 b = some (.ext φ) → φ base') (c : Addr) (e : H1 c = some (CodeO c qLam)) : c ∉ own5 f c' k1 k2 k3 := fun m => by
  obtain ⟨oc, vs, t, e1, e2, e3⟩ := kn c m _ e
  have cell : ∀ {v : V}, H1 c = some (CellO c v) → False := fun {v} ev => by
    obtain ⟨u, _, o, a1, a2⟩ := kn c m _ ev
    rw [e1] at a1
    cases a1
    rw [e2] at a2
    cases a2
  have m' := m
  simp only [List.mem_cons, List.not_mem_nil, or_false] at m'
  rcases m' with rfl | rfl | rfl | rfl | rfl
  · obtain ⟨od, sl, doc, pm, ctv, a1⟩ := kn _ m _ A.as.fn
    rw [e1] at a1
    cases a1
    cases e2
  · obtain ⟨⟨oc2, vs2, t2, a1, a2, a3⟩, _⟩ := kn _ m _ A.as.code
    rw [e1] at a1
    cases a1
    rw [e2] at a2
    cases a2
    rw [e3] at a3
    injection a3 with a3
    injection a3 with a3
    exact absurd a3 (by decide)
  · exact cell A.as.c1
  · exact cell A.as.c2
  · exact cell A.as.c3
/-- the answerer within the callee's base -/
theorem ans_ok (S : TX K mg) (TB : TabB base mg (askC K) (askP K)) {H1 : Hp} {f c' P2 k1 k2 k3 : Addr} {cl : List (Str × Addr)} {p a td : Addr} {ra : Nat → Addr} {h n : Nat} {r : Rl} {ws : List L} {g : G2} (A : AnsIn K H1 f c' P2 k1 k2 k3 cl p a td ra h n r ws g)
    {base' : Heap} (mod : Mod K mg base') (up : ∀ b o, base.get? b = some o → base'.get? b = some o) (kn : ∀ b ∈ own5 f c' k1 k2 k3, ∀ φ, H1 b = some (.ext φ) → φ base') (un : ∀ b o, delL H1 (own5 f c' k1 k2 k3) b = some o → base'.get? b = none) (al : Nat × Nat → Prop) :
    AskOk P w K mg base' 25 f (p_ans (delL H1 (own5 f c' k1 k2 k3)) td P2 al h n g) ∧ AskJ (ansJ (delL H1 (own5 f c' k1 k2 k3)) td P2 al) (· = td) (fun b => delL H1 (own5 f c' k1 k2 k3) b ≠ none) (delL H1 (own5 f c' k1 k2 k3)) := by
  have hD := A.exts
  have m1 : f ∈ own5 f c' k1 k2 k3 := by simp
  have m2 : c' ∈ own5 f c' k1 k2 k3 := by simp
  have m3 : k1 ∈ own5 f c' k1 k2 k3 := by simp
  have m4 : k2 ∈ own5 f c' k1 k2 k3 := by simp
  have m5 : k3 ∈ own5 f c' k1 k2 k3 := by simp
  have td0 : delL H1 (own5 f c' k1 k2 k3) td = some (.lst []) := (delL_out (hD.out A.told fun _ z => by cases z)).trans A.told
  have outO := A.out_code kn
  have in0 : ∀ {b : Addr} {o : HO}, delL H1 (own5 f c' k1 k2 k3) b = some o → H1 b = some o := fun {b o} e => by
    unfold delL at e
    split at e
    · cases e
    · exact e
  have up0 : ∀ {b : Addr} {o : HO}, H1 b = some o → (∀ φ, o ≠ .ext φ) → delL H1 (own5 f c' k1 k2 k3) b = some o := fun {b o} e n => (delL_out (hD.out e n)).trans e
  have T0 : TabS (delL H1 (own5 f c' k1 k2 k3)) P2 qLam := by
    obtain ⟨ps, e1, e2, e3⟩ := A.as.tab
    refine ⟨ps, up0 e1 (fun _ z => by cases z), e2, fun pos cv hc => ?_⟩
    obtain ⟨c, ec, eo⟩ := e3 pos cv hc
    exact ⟨c, ec, (delL_out (outO c eo)).trans eo⟩
  have P2n : base'.get? P2 = none := by
    obtain ⟨ps, e1, _⟩ := T0
    exact un _ _ e1
  have neP2 : ∀ {b : Addr} {o : Obj}, base'.get? b = some o → b ≠ P2 := fun {b o} e z => by
    rw [z, P2n] at e
    cases e
  have TB' : TabB base' mg c' P2 := by
    refine ⟨(kn c' m2 _ A.as.code).2, ?_, ?_⟩
    · obtain ⟨bm, ob, hbm, n0, n1, nP, bo, bc, bd, bdat⟩ := TB.bm
      exact ⟨bm, ob, hbm, n0, n1, neP2 (up _ _ bo), up _ _ bo, bc, bd, bdat⟩
    · obtain ⟨o, es, ep, e, _⟩ := mod.glob
      exact neP2 e
  have cells : ∀ {k : Addr} {v : V}, k ∈ own5 f c' k1 k2 k3 → H1 k = some (CellO k v) → ∃ u, L2.RelV v u ∧ base'.IsCell k (some u) := fun {k v} hk e => kn k hk _ e
  have C : CapB cl ["_law_plan", "_law_rows_here", "_law_told"] [some (.ref p), some (.ref a), some (.ref td)] base' := by
    refine ⟨rfl, fun y c e => ?_, A.as.inj, fun i y e => ?_⟩
    · rcases A.as.only y c e with rfl | rfl | rfl
      · obtain ⟨u, _, z⟩ := cells m3 A.as.c1
        exact ⟨_, z⟩
      · obtain ⟨u, _, z⟩ := cells m4 A.as.c2
        exact ⟨_, z⟩
      · obtain ⟨u, _, z⟩ := cells m5 A.as.c3
        exact ⟨_, z⟩
    · match i, e with
      | 0, e =>
        cases e
        exact ⟨k1, A.as.l1, fun v ev => by cases ev; exact cells m3 A.as.c1⟩
      | 1, e =>
        cases e
        exact ⟨k2, A.as.l2, fun v ev => by cases ev; exact cells m4 A.as.c2⟩
      | 2, e =>
        cases e
        exact ⟨k3, A.as.l3, fun v ev => by cases ev; exact cells m5 A.as.c3⟩
      | i + 3, e => cases e
  obtain ⟨⟨oc, vc, tq, q1, q2, q3⟩, _⟩ := kn c' m2 _ A.as.code
  have st : ∀ H, Plain td (delL H1 (own5 f c' k1 k2 k3)) H → ∀ b o, H1 b = some o → b ≠ td → (∀ ps, o ≠ .tbl ps) → (∀ φ, o ≠ .ext φ) → H b = some o := fun H x b o e n1 n2 n3 => x b o (up0 e n3) n1 n2 n3
  have sz := A.pl.sz
  have ok := A.pl.ok
  refine ⟨ask_ans S (ra := ra) TB' (kn f m1 _ A.as.fn) ⟨c', oc, vc, tq, rfl, q1, q2, q3⟩ C (fun H x => plan_stay A.pl A.told (st H x)) (fun H x => rows_stay A.rows sz A.told (st H x)) fun pls _ => ?_, ansJ_ask td0 T0⟩
  have b0 : BdS 1000000000 (h, n) (maskL pls fun y x => 3 - g y x) := fun y x hy hx => by
    have := A.bd y x hy hx
    show In (if (y, x) ∈ pls then 3 - g y x else 0) _
    split
    · omega
    · omega
  exact ⟨b0, fun y x hy hx => by have := b0 y x hy hx; omega, back_in ok A.shp b0⟩
/-- what is known behind such a call -/
structure Behind (K : PySem.W.Frag) (H1 H' : Hp) (td P2 : Addr) (al : Nat × Nat → Prop) : Prop where
  keep : KB2 td P2 H1 H'
  ti : TI (askP K) qAns qLam H'
  told : ∃ ts qs, LOf H' td ts qs cT ∧ ∀ q ∈ qs, al q
theorem behind {H1 : Hp} {f c' P2 k1 k2 k3 : Addr} {cl : List (Str × Addr)} {p a td : Addr} {ra : Nat → Addr} {h n : Nat} {r : Rl} {ws : List L} {g : G2} (A : AnsIn K H1 f c' P2 k1 k2 k3 cl p a td ra h n r ws g) {al : Nat × Nat → Prop} {m : Nat} {H2 : Hp}
    (J : ansJ (delL H1 (own5 f c' k1 k2 k3)) td P2 al m H2) (hn : ∀ b ∈ own5 f c' k1 k2 k3, H2 b = none) : Behind K H1 (putL H2 (own5 f c' k1 k2 k3) H1) td P2 al := by
  have hD := A.exts
  obtain ⟨j1, j2, ts, qs, j3, j4, j5⟩ := J
  have out : ∀ {b : Addr} {o : HO}, H2 b = some o → b ∉ own5 f c' k1 k2 k3 := fun {b o} e z => by
    rw [hn b z] at e
    cases e
  have at2 : ∀ {b : Addr} {o : HO}, H2 b = some o → putL H2 (own5 f c' k1 k2 k3) H1 b = some o := fun {b o} e => (putL_out (out e)).trans e
  have keep : KB2 td P2 H1 (putL H2 (own5 f c' k1 k2 k3) H1) := fun b o n1 n2 e => by
    by_cases z : b ∈ own5 f c' k1 k2 k3
    · rw [putL_in z]; exact e
    · rw [putL_out z]
      exact j1 b o n1 n2 ((delL_out z).trans e)
  have tab2 : TabS (putL H2 (own5 f c' k1 k2 k3) H1) P2 qLam := j2.ext fun b o e => at2 e
  have ext : ∀ {b : Addr} {φ : Heap → Prop}, H1 b = some (.ext φ) → putL H2 (own5 f c' k1 k2 k3) H1 b = some (.ext φ) := fun {b φ} e => keep b _ (fun z => by rw [z, A.told] at e; cases e) (fun _ ps z => by cases z) e
  refine ⟨keep, ?_, ts, qs, ⟨at2 j3.top, fun i x e => at2 (j3.it i x e)⟩, j5⟩
  obtain ⟨ps, e1, e2, e3⟩ := A.as.ti
  have td1 := A.told
  refine ⟨ps, keep _ _ (fun z => by rw [z, td1] at e1; cases e1) (fun z => absurd z.symm A.as.ne) e1, e2, fun pos cv hc => ?_⟩
  obtain ⟨c, P3, a1, a2, a3, a4⟩ := e3 pos cv hc
  refine ⟨c, P3, a1, a2, ext a3, ?_⟩
  by_cases z : P3 = P2
  · rw [z]; exact tab2
  · obtain ⟨qs', b1, b2, b3⟩ := a4
    refine ⟨qs', keep _ _ (fun z => by rw [z, td1] at b1; cases b1) (fun z2 => absurd z2 z) b1, b2, fun pos' cv' hc' => ?_⟩
    obtain ⟨c0, d1, d2⟩ := b3 pos' cv' hc'
    exact ⟨c0, d1, ext d2⟩
theorem Behind.extN {H1 H' : Hp} {td P2 : Addr} {al : Nat × Nat → Prop} (b : Behind K H1 H' td P2 al) {H : Hp} (e : ExtN H H1) (n : H td = none) : ExtN H H' := fun c o eo m => b.keep c o (ne_of_none eo n) (fun _ => m) (e c o eo m)
/-- number_from, place_from called with an answerer -/
theorem call_from (S : TX K mg) (TB : TabB base mg (askC K) (askP K)) {b : Int} {Fp : Rl → Nat × Nat → List L → PS → PS} {M : Rl → Nat × Nat → List L → G2 → G2} {H1 : Hp} {f c' P2 k1 k2 k3 : Addr} {cl : List (Str × Addr)} {p a td t : Addr} {ra : Nat → Addr} {h n : Nat} {r : Rl} {ws : List L} {g : G2} {qq : Nat × Nat} {Q : VK}
    (A : AnsIn K H1 f c' P2 k1 k2 k3 cl p a td ra h n r ws g) (ht : H1 t = some (cT qq)) (q1 : qq.1 < h) (q2 : qq.2 < n) (hin : ∀ x, Fp r (h, n) ws (· = qq) x → x.1 < h ∧ x.2 < n)
    (hb : ∀ pls : List (Nat × Nat), (∀ x, x ∈ pls ↔ Fp r (h, n) ws (· = qq) x) → Bd b h n (maskL pls g) ∧ Bd 999999999999999 h n (maskL pls g) ∧ Bd 999999999999999 h n (M r (h, n) ws (maskL pls g)) ∧ M r (h, n) ws (maskL pls g) qq.1 qq.2 = M r (h, n) ws g qq.1 qq.2)
    (q : ∀ H', Behind K H1 H' td P2 (Fp r (h, n) ws (· = qq)) → Q (.int (M r (h, n) ws g qq.1 qq.2)) H') :
    ∃ D : List Addr, Exts H1 D ∧ ∀ base' : Heap, Mod K mg base' → (∀ b o, base.get? b = some o → base'.get? b = some o) → (∀ a ∈ D, ∀ φ, H1 a = some (.ext φ) → φ base') → (∀ b o, delL H1 D b = some o → base'.get? b = none) →
      p_from P w K mg base' 25 b Fp M [.ref p, .ref f, .ref t] (delL H1 D) fun v H2 => (∀ a ∈ D, H2 a = none) → Q v (putL H2 D H1) := by
  have hD := A.exts
  refine ⟨own5 f c' k1 k2 k3, hD, fun base' mod up kn un => ?_⟩
  obtain ⟨ask, aj⟩ := ans_ok (P := P) (w := w) S TB A mod up kn un (Fp r (h, n) ws (· = qq))
  have up0 : ∀ {b : Addr} {o : HO}, H1 b = some o → (∀ φ, o ≠ .ext φ) → delL H1 (own5 f c' k1 k2 k3) b = some o := fun {b o} e n => (delL_out (hD.out e n)).trans e
  have plS : ∀ H, ExtS (· = td) (delL H1 (own5 f c' k1 k2 k3)) H → PlanAt K H p h n r ws := fun H x => plan_stay A.pl A.told fun b o e n1 n2 n3 => x b o (up0 e n3) n1 n2
  refine ⟨p, f, t, h, n, r, ws, qq, _, _, _, _, g, rfl, plS _ (ExtS.refl _ _), plS, ask, aj, up0 ht (fun _ z => by unfold cT at z; cases z), ⟨q1, q2⟩, fun pls hp => ?_, fun pls H2 hp j e hn => ?_⟩
  · obtain ⟨b1, b2, b3, _⟩ := hb pls hp
    refine ⟨fun k Ha tt x QQ hk ja hta hx cont => ?_, b1, b2, b3⟩
    have al := (hp x).mp hx
    obtain ⟨x1, x2⟩ := hin x al
    exact ⟨k, tt, x, rfl, hk, ja, hta, al, x1, x2, fun H2 j2 kb => cont H2 j2 kb.extS⟩
  · rw [(hb pls hp).2.2.2]
    exact q _ (behind A j hn)
end
end Kp
/-! the law's checks of numbers, values, areas -/
namespace Kp
open PySem PySem.Spec PyProof.Rows L2 LamX NdefX
theorem ru65 {k : Nat} {A : Around} (r : Room k A) : A.units + 65 < cLine := by have := r.un; omega
def p_law_among : Pm := fun vs H Q => ∃ (a b : Addr) (ta tb : Nat → Addr) (qs pls : List (Nat × Nat)), vs = [.ref a, .ref b] ∧ LOf H a ta qs cT ∧ LOf H b tb pls cT ∧ (∀ q ∈ qs, q ∈ pls) ∧ Q (.bl true) H
theorem eqv_pl (q x : Nat × Nat) (h : x = q) : PyData.eqv (.tuple [.int (x.1 : Int), .int (x.2 : Int)]) (.tuple [.int (q.1 : Int), .int (q.2 : Int)]) = true := by
  rw [h]
  exact SeqAt.eqv_refl _ (SeqAt.canLay_of_shaped sh_pair)
theorem mask_bd {B : Int} {h n : Nat} {g : G2} {pls : List (Nat × Nat)} (hB : 0 ≤ B) (bd : Bd B h n g) : BdS B (h, n) (maskL pls g) := fun y x hy hx => by
  have := bd y x hy hx
  show In (if (y, x) ∈ pls then g y x else 0) B
  split
  · exact this
  · omega
def p_law_numbers_right (K : PySem.W.Frag) : Pm := fun vs H Q => ∃ (p a wr t : Addr) (ra : Nat → Addr) (h w : Nat) (r : Rl) (ws : List L) (g : G2) (qq : Nat × Nat), vs = [.ref p, .ref a, .ref wr, .ref t] ∧ TI (askP K) qAns qLam H ∧ PlanAt K H p h w r ws ∧ Rows H a ra h w g ∧ FieldAt K H wr h w (halvedM r (h, w) ws g) ∧ H t = some (cT qq) ∧ (qq.1 < h ∧ qq.2 < w) ∧ Shp (h, w) ∧ Bd 100000 h w g ∧
  ∀ H', ExtN H H' → TI (askP K) qAns qLam H' → Q (.bl true) H'
section
variable {P : Program} {w : World} {K : PySem.W.Frag} {mg : Str → Option Value} {base : Heap}
theorem ok_law_among (S : TX K mg) : OkF P w K mg base 1 (He.ga K "_law_among") (p_law_among) := by
  refine okF (F_law_among S) sc_law_among (by tm_at "len") (fun _ _ _ _ _ _ us hl => match us, hl with | [_, _], _ => rfl) (fun cdv A outer s H vs Q E hr h => ?_)
  obtain ⟨a, b, ta, tb, qs, pls, rfl, lq, lp, hin, q⟩ := h
  refine ⟨_, (pss_cons (ps_for PassesOwn.never rfl (kList (K := K) rfl (pv 0)) (pg_name (i := 2) sc_law_among.nd rfl (Or.inl rfl)) (pss_one (ps_if (pt_cmpR (kNotInD (K := K) rfl (ru65 hr)) (pv 2) (pv 1) rfl) (pss_one (ps_ret pe_bl)) pss_nil)))
    (pss_one (ps_ret pe_bl))), ?_⟩
  tm_at "go"
  refine gL1 (SqL.of lq.top) ?_
  refine forIt (wTab (m := qs.length) (f := fun i => .ref (ta i))) (fun i σ H' => H' = H ∧ ∃ v, σ = [some (.ref a), some (.ref b), v]) ⟨rfl, none, rfl⟩ (fun i σ H' _ z => by rw [z.1]; exact SqL.of lq.top) ?_ ?_
  · rintro i x σ H1 H2 hi ⟨rfl, v, rfl⟩ ⟨rfl, rfl⟩
    have hq : qs[i]? = some qs[i] := List.getElem?_eq_getElem hi
    have et := lq.it i _ hq
    have mem := hin _ (List.mem_of_getElem? hq)
    tm_at "go"
    refine ⟨_, _, dp_pair et, dp_told lp, sh_pair, dPl_shaped pls, ?_⟩
    have ha : (dPl pls).any (fun z => PyData.eqv z (.tuple [.int (qs[i].1 : Int), .int (qs[i].2 : Int)])) = true := List.any_eq_true.mpr ⟨_, List.mem_map.mpr ⟨_, mem, rfl⟩, eqv_pl _ _ rfl⟩
    rw [ha]
    tm_at "go"
    exact ⟨rfl, _, rfl⟩
  · rintro σ H1 ⟨rfl, v, rfl⟩
    tm_at "go"
    exact q
theorem ok_law_numbers_right (S : TX K mg) (TB : TabB base mg (askC K) (askP K)) : OkF P w K mg base 47 (He.ga K "_law_numbers_right") (p_law_numbers_right K) := by
  refine okF (F_law_numbers_right S) sc_law_numbers_right (by tm_at "len") (fun _ _ _ _ _ _ us hl => match us, hl with | [_, _, _, _], _ => rfl) (fun cdv A outer s H vs Q E hr h => ?_)
  obtain ⟨p, a, wr, t, ra, h, n, r, ws, g, qq, rfl, ti, Pl, R, F, et, ⟨q1, q2⟩, shp, bd, q⟩ := h
  refine ⟨_, (pss_cons (ps_set (i := 4) sc_law_numbers_right.nd rfl (Or.inl rfl) (pe_lst pa_nil))
    (pss_cons (ps_set (i := 5) sc_law_numbers_right.nd rfl (Or.inl rfl) (pe_fr (fun b => ok_number_from (base := b) S 25) (hr.mono (by decide)) rfl (glo_number_from S) (pa_cons (pv 0) (pa_cons (pe_f (ok_law_asked S TB) (hr.mono (by decide)) rfl (glo_law_asked S) (pa_cons (pv 0) (pa_cons (pv 1) (pa_cons (pv 4) pa_nil)))) (pa_cons (pv 3) pa_nil)))))
    (pss_cons (ps_if (PW.pt (pw_or (pt_not (pt_val (pe_f (ok_law_whole S) (hr.mono (by decide)) rfl (glo_law_whole S) (pa_cons (pv 5) pa_nil)))) (pw_or1 (pt_cmpR op_ne (pv 5) (pe_mt (pv 2) (cls_Field S) (me_Field_at S) (ok_Field_at S) (hr.mono (by decide)) (pa_cons (pv 3) pa_nil)) (nomark _))))) (pss_one (ps_ret pe_bl)) pss_nil)
    (pss_one (ps_ret (pe_f (ok_law_among S) (hr.mono (by decide)) rfl (glo_law_among S) (pa_cons (pv 4) (pa_cons (pe_f (ok_hangs S) (hr.mono (by decide)) rfl (glo_hangs S) (pa_cons (pv 0) (pa_cons (pv 3) pa_nil))) pa_nil)))))))), ?_⟩
  tm_at "go"
  refine ⟨szL rfl, fun td htd => ?_⟩
  generalize hg1 : upd _ _ _ = H1
  obtain ⟨s1, e1⟩ := newF hg1 htd
  tm_at "go"
  refine gFR ?_
  tm_at "go"
  refine ⟨_, _, _, rfl, ti.ext s1, fun f c' P2 k1 k2 k3 cl H2 x2 _ _ _ _ AS => ?_⟩
  tm_at "go"
  have x12 := (ExtN.of s1).trans x2
  have st2 : ∀ b o, H b = some o → (∀ ps, o ≠ .tbl ps) → H2 b = some o := fun b o e m => x12 b o e m
  have Pl2 := plan_stay' Pl st2
  have ok := Pl.ok
  have An : AnsIn K H2 f c' P2 k1 k2 k3 cl p a td ra h n r ws g := ⟨AS, Pl2, rows_stay' R st2, x2 _ _ e1 (fun _ z => by cases z), shp, bd.mono (by decide)⟩
  have ig : InG (h, n) (· = qq) := fun x hx => by rw [hx]; exact ⟨q1, q2⟩
  refine call_from S TB An (st2 _ _ et (fun _ z => by unfold cT at z; cases z)) q1 q2 (fun x hx => hg_in ig _ x hx) (fun pls hp => ?_) fun H3 B3 => ?_
  · have b0 : BdS 100000 (h, n) (maskL pls g) := mask_bd (by decide) bd
    have b1 := halved_in (r := r) ok shp b0
    refine ⟨b0, b0.mono (by decide), b1.mono (by decide), halved_hang (A := (· = qq)) ok (fun x hx => ?_) qq rfl⟩
    exact if_pos ((hp x).mpr hx)
  have x03 : ExtN H H3 := B3.extN x12 htd
  have st3 : ∀ b o, H b = some o → (∀ ps, o ≠ .tbl ps) → H3 b = some o := fun b o e m => x03 b o e m
  have F3 := field_stay' F st3
  have Pl3 := plan_stay' Pl st3
  have et3 := st3 _ _ et (fun _ z => by unfold cT at z; cases z)
  obtain ⟨⟨dxw, la, rw', hw, Rw⟩, z, bw⟩ := F3
  have F3 := field_stay' F st3
  tm_at "go"
  refine ⟨_, rfl, ?_⟩
  tm_at "go"
  refine gMeE hw rfl ?_
  tm_at "go"
  refine ⟨wr, t, h, n, _, qq.1, qq.2, rfl, F3, et3, q1, q2, ?_⟩
  tm_at "go"
  refine gIfF (by rw [decide_eq_true rfl]; rfl) ?_
  tm_at "go"
  obtain ⟨ts, qs, lt, la⟩ := B3.told
  refine ⟨p, t, h, n, r, ws, qq, rfl, Pl3, et3, ⟨q1, q2⟩, fun D H4 tq pls s4 nD _ hpl lp => ?_⟩
  tm_at "go"
  exact ⟨td, D, ts, tq, qs, pls, rfl, lt.same s4, lp, fun x hx => (hpl x).mpr (la x hx), q H4 (x03.trans (ExtN.of s4)) (B3.ti.ext s4)⟩
def p_law_values_right (K : PySem.W.Frag) : Pm := fun vs H Q => ∃ (p a rd t : Addr) (ra : Nat → Addr) (h w : Nat) (r : Rl) (ws : List L) (g : G2) (Q2 : Nat → Nat → Nat) (qq : Nat × Nat), vs = [.ref p, .ref a, .ref rd, .ref t] ∧ TI (askP K) qAns qLam H ∧ PlanAt K H p h w r ws ∧ Rows H a ra h w g ∧ ReadQ K H rd h w r ws (halvedM r (h, w) ws g) Q2 ∧ H t = some (cT qq) ∧ (qq.1 < h ∧ qq.2 < w) ∧ Shp (h, w) ∧ Bd 100000 h w g ∧
  ∀ H', ExtN H H' → TI (askP K) qAns qLam H' → Q (.bl true) H'
theorem readq_stay' {K : PySem.W.Frag} {H H' : Hp} {p : Addr} {h n : Nat} {r : Rl} {ws : List L} {g : G2} {Q2 : Nat → Nat → Nat} (x : ReadQ K H p h n r ws g Q2) (k : ∀ b o, H b = some o → (∀ ps, o ≠ .tbl ps) → H' b = some o) : ReadQ K H' p h n r ws g Q2 := by
  obtain ⟨c, cu, e, to, e1, e2, e3, e4, e5, e6, e7⟩ := x.at_
  have kl : ∀ {b : Addr} {xs : List V}, H b = some (.lst xs) → H' b = some (.lst xs) := fun e => k _ _ e (fun _ z => by cases z)
  exact ⟨⟨c, cu, e, to, e1, k _ _ e2 (fun _ z => by cases z), plan_stay' e3 k, ⟨kl e4.top, fun i x e => k _ _ (e4.it i x e) (fun _ z => by unfold cT at z; cases z)⟩, kl e5, kl e6, kl e7⟩, x.le⟩
theorem pow_le30 {k : Nat} (hk : k ≤ 30) : (1 : Int) ≤ 2 ^ k ∧ (2 : Int) ^ k ≤ 1073741824 := by
  have h1 := Nat.pow_le_pow_right (show 0 < 2 by decide) hk
  have h2 := Nat.two_pow_pos k
  have h3 : ((2 ^ k : Nat) : Int) = (2 : Int) ^ k := by simp
  have h4 : (2 : Nat) ^ 30 = 1073741824 := by decide
  omega
theorem ok_law_values_right (S : TX K mg) (TB : TabB base mg (askC K) (askP K)) : OkF P w K mg base 48 (He.ga K "_law_values_right") (p_law_values_right K) := by
  refine okF (F_law_values_right S) sc_law_values_right (by tm_at "len") (fun _ _ _ _ _ _ us hl => match us, hl with | [_, _, _, _], _ => rfl) (fun cdv A outer s H vs Q E hr h => ?_)
  obtain ⟨p, a, rd, t, ra, h, n, r, ws, g, Q2, qq, rfl, ti, Pl, R, RQ, et, ⟨q1, q2⟩, shp, bd, q⟩ := h
  refine ⟨_, (pss_cons (ps_set (i := 4) sc_law_values_right.nd rfl (Or.inl rfl) (pe_mt0 (pe_mt0 (pv 2) (cls_Reading S) (me_Reading_numbers S) (ok_Reading_numbers S) (hr.mono (by decide))) (cls_Field S) (me_Field_rows S) (ok_Field_rows S) (hr.mono (by decide))))
    (pss_cons (ps_set (i := 5) sc_law_values_right.nd rfl (Or.inl rfl) (pe_mt (pe_f (ok_put_back S) (hr.mono (by decide)) rfl (glo_put_back S) (pa_cons (pe_mt0 (pv 2) (cls_Reading S) (me_Reading_plan S) (ok_Reading_plan S) (hr.mono (by decide))) (pa_cons (pe_mt0 (pv 2) (cls_Reading S) (me_Reading_numbers S) (ok_Reading_numbers S) (hr.mono (by decide))) pa_nil))) (cls_Field S) (me_Field_at S) (ok_Field_at S) (hr.mono (by decide)) (pa_cons (pv 3) pa_nil)))
    (pss_cons (ps_set (i := 6) sc_law_values_right.nd rfl (Or.inl rfl) (pe_lst pa_nil))
    (pss_cons (ps_set (i := 7) sc_law_values_right.nd rfl (Or.inl rfl) (pe_fr (fun b => ok_place_from (base := b) S 25) (hr.mono (by decide)) rfl (glo_place_from S) (pa_cons (pv 0) (pa_cons (pe_f (ok_law_asked S TB) (hr.mono (by decide)) rfl (glo_law_asked S) (pa_cons (pv 0) (pa_cons (pv 4) (pa_cons (pv 6) pa_nil)))) (pa_cons (pv 3) pa_nil)))))
    (pss_cons (ps_if (PW.pt (pw_or (pt_not (pt_val (pe_f (ok_law_whole S) (hr.mono (by decide)) rfl (glo_law_whole S) (pa_cons (pv 7) pa_nil)))) (pw_or (pt_cmpR op_ne (pv 7) (pv 5) (nomark _)) (pw_or1 (pt_not (pt_val (pe_f (ok_law_among S) (hr.mono (by decide)) rfl (glo_law_among S) (pa_cons (pv 6) (pa_cons (pe_f (ok_needs S) (hr.mono (by decide)) rfl (glo_needs S) (pa_cons (pv 0) (pa_cons (pv 3) pa_nil))) pa_nil))))))))) (pss_one (ps_ret pe_bl)) pss_nil)
    (pss_one (ps_ret (pe_cmpR op_le (pe_callB call_abs rfl (fr_abs S) bt_abs (pa_cons (pe_op op_sub (pv 7) (pe_ix (kIxL (K := K) rfl) (pe_ix (kIxL (K := K) rfl) (pv 1) (pe_ix (kIxT (K := K) rfl) (pv 3) pe_int (fun _ _ => rfl)) (fun _ _ => rfl)) (pe_ix (kIxT (K := K) rfl) (pv 3) pe_int (fun _ _ => rfl)) (fun _ _ => rfl))) pa_nil)) (pe_mt (pe_f (ok_worst S) (hr.mono (by decide)) rfl (glo_worst S) (pa_cons (pv 0) (pa_cons (pe_mt0 (pv 2) (cls_Reading S) (me_Reading_unread S) (ok_Reading_unread S) (hr.mono (by decide))) pa_nil))) (cls_Field S) (me_Field_at S) (ok_Field_at S) (hr.mono (by decide)) (pa_cons (pv 3) pa_nil)) (nomark _))))))))), ?_⟩
  have z := Pl.sz
  have ok := Pl.ok
  have bN : BdS 656100000 (h, n) (halvedM r (h, n) ws g) := halved_in ok shp bd
  have bA : BdS 656100000 (h, n) (numF Q2 (halvedM r (h, n) ws g)) := fun y x hy hx => rdv_in (bN y x hy hx)
  have bB := back_in (r := r) ok shp (bA.mono (by decide))
  have near : Nr (backM r (h, n) ws (numF Q2 (halvedM r (h, n) ws g)) qq.1 qq.2) (g qq.1 qq.2) (worstM r (h, n) ws (unrF Q2 (halvedM r (h, n) ws g)) qq.1 qq.2) := by
    have h1 := back_near (r := r) (g := numF Q2 (halvedM r (h, n) ws g)) (g' := halvedM r (h, n) ws g) (e := unrF Q2 (halvedM r (h, n) ws g)) ok (fun y x _ _ => rdv_near (Q2 y x) _) qq.1 qq.2 q1 q2
    have h2 := back_halved (r := r) (g := g) ok qq ⟨q1, q2⟩
    rw [h2] at h1
    exact h1
  have bU : ∀ y x, y < h → x < n → 0 ≤ unrF Q2 (halvedM r (h, n) ws g) y x ∧ unrF Q2 (halvedM r (h, n) ws g) y x ≤ 1073741824 := fun y x _ _ => by
    have := pow_le30 (RQ.le y x)
    show 0 ≤ (2 : Int) ^ Q2 y x - 1 ∧ (2 : Int) ^ Q2 y x - 1 ≤ 1073741824
    omega
  have bW := worst_in (r := r) (g := unrF Q2 (halvedM r (h, n) ws g)) ok shp (fun y x hy hx => by have := bU y x hy hx; omega)
  generalize hN : halvedM r (h, n) ws g = N at *
  obtain ⟨⟨rc, rcu, re, rto, rfl, hrd, _⟩, _⟩ := id RQ
  tm_at "go"
  refine gMeE hrd rfl ?_
  tm_at "go"
  refine ⟨rc.p, h, n, r, ws, N, Q2, rfl, RQ, (bN.mono (by decide) : BdS 1000000000 (h, n) N), fun x1 H1 s1 F1 => ?_⟩
  obtain ⟨⟨dx1, l1, r1, e1, _⟩, _, _⟩ := id F1
  refine gMeE e1 rfl ?_
  tm_at "go"
  refine ⟨x1, h, n, _, rfl, F1, fun a2 ra2 H2 NL => ?_⟩
  have R2 := Rows.of NL
  have s02 := s1.trans NL.same
  tm_at "go"
  refine gMeE (s02 _ _ hrd) rfl ?_
  tm_at "go"
  refine ⟨rc.p, h, n, r, ws, N, Q2, rfl, RQ.keep s02, fun d Pd => ?_⟩
  tm_at "go"
  refine gMeE (s02 _ _ hrd) rfl ?_
  tm_at "go"
  refine ⟨rc.p, h, n, r, ws, N, Q2, rfl, RQ.keep s02, (bN.mono (by decide) : BdS 1000000000 (h, n) N), fun x3 H3 s3 F3 => ?_⟩
  tm_at "go"
  refine ⟨d, x3, h, n, r, ws, _, rfl, Pd.same s3, F3, (bA.mono (by decide) : BdS 1000000000 (h, n) (numF Q2 N)), bB, fun x4 H4 s4 F4 => ?_⟩
  have s24 := s3.trans s4
  have s04 := s02.trans s24
  obtain ⟨⟨dx4, l4, r4, e4, _⟩, _, _⟩ := id F4
  refine gMeE e4 rfl ?_
  tm_at "go"
  refine ⟨x4, t, h, n, _, qq.1, qq.2, rfl, F4, s04 _ _ et, q1, q2, ?_⟩
  tm_at "go"
  refine ⟨szL rfl, fun td htd => ?_⟩
  generalize hg5 : upd _ _ _ = H5
  obtain ⟨s5, e5⟩ := newF hg5 htd
  tm_at "go"
  refine gFR ?_
  tm_at "go"
  have s05 := s04.trans s5
  refine ⟨_, _, _, rfl, ti.ext s05, fun f c' P2 k1 k2 k3 cl H6 x6 _ _ _ _ AS => ?_⟩
  tm_at "go"
  have x06 := (ExtN.of s05).trans x6
  have st6 : ∀ b o, H b = some o → (∀ ps, o ≠ .tbl ps) → H6 b = some o := fun b o e m => x06 b o e m
  have Pl6 := plan_stay' Pl st6
  have R6 : Rows H6 a2 ra2 h n (numF Q2 N) := rows_stay' (R2.same (s24.trans s5)) fun b o e m => x6 b o e m
  have An : AnsIn K H6 f c' P2 k1 k2 k3 cl p a2 td ra2 h n r ws (numF Q2 N) := ⟨AS, Pl6, R6, x6 _ _ e5 (fun _ z => by cases z), shp, (bA.mono (by decide) : BdS 999999997 (h, n) (numF Q2 N))⟩
  have ig : InG (h, n) (· = qq) := fun x hx => by rw [hx]; exact ⟨q1, q2⟩
  refine call_from S TB An (st6 _ _ et (fun _ z => by unfold cT at z; cases z)) q1 q2 (fun x hx => nd_in ig _ x hx) (fun pls hp => ?_) fun H7 B7 => ?_
  · have b0 : BdS 1000000000 (h, n) (maskL pls (numF Q2 N)) := mask_bd (by decide) (bA.mono (by decide) : BdS 1000000000 (h, n) (numF Q2 N))
    exact ⟨b0, b0.mono (by decide), back_in ok shp b0, back_need (A := (· = qq)) ok (fun x hx => if_pos ((hp x).mpr hx)) qq rfl⟩
  have hH0 : H td = none := s04.free htd
  have x07 : ExtN H H7 := B7.extN x06 hH0
  have st7 : ∀ b o, H b = some o → (∀ ps, o ≠ .tbl ps) → H7 b = some o := fun b o e m => x07 b o e m
  have Pl7 := plan_stay' Pl st7
  have et7 := st7 _ _ et (fun _ z => by unfold cT at z; cases z)
  obtain ⟨ts, qs, lt, la⟩ := B7.told
  tm_at "go"
  refine ⟨_, rfl, ?_⟩
  tm_at "go"
  refine gIfF (by rw [decide_eq_true rfl]; rfl) ?_
  tm_at "go"
  refine ⟨p, t, h, n, r, ws, qq, rfl, Pl7, et7, ⟨q1, q2⟩, fun D H8 tq pls s8 nD _ hpl lp => ?_⟩
  tm_at "go"
  refine ⟨td, D, ts, tq, qs, pls, rfl, lt.same s8, lp, fun x hx => (hpl x).mpr (la x hx), ?_⟩
  tm_at "go"
  have st8 : ∀ b o, H b = some o → (∀ ps, o ≠ .tbl ps) → H8 b = some o := fun b o e m => s8 _ _ (st7 b o e m)
  have R8 := rows_stay' R st8
  have RQ8 := readq_stay' RQ st8
  refine gIxT (SqT.of (s8 _ _ et7)) (i := 0) rfl ?_
  refine gIxL (SqL.of R8.top) (at_tab q1) ?_
  tm_at "go"
  refine gIxT (SqT.of (s8 _ _ et7)) (i := 1) rfl ?_
  refine gIxL (SqL.of (R8.row _ q1)) (at_tab q2) ?_
  tm_at "go"
  refine ⟨_, rfl, ?_⟩
  tm_at "go"
  refine gMeE (st8 _ _ hrd (fun _ z => by cases z)) rfl ?_
  tm_at "go"
  refine ⟨rc.p, h, n, r, ws, N, Q2, rfl, RQ8, (bN.mono (by decide) : BdS 1000000000 (h, n) N), fun x9 H9 s9 F9 => ?_⟩
  tm_at "go"
  refine ⟨p, x9, h, n, r, ws, _, rfl, (plan_stay' Pl st8).same s9, F9, bU, bW, fun x10 H10 s10 F10 => ?_⟩
  obtain ⟨⟨dx10, l10, r10, e10, _⟩, _, _⟩ := id F10
  refine gMeE e10 rfl ?_
  tm_at "go"
  have s8_10 := s9.trans s10
  refine ⟨x10, t, h, n, _, qq.1, qq.2, rfl, F10, s8_10 _ _ (s8 _ _ et7), q1, q2, ?_⟩
  tm_at "go"
  rw [abs_if, decide_eq_true (by omega)]
  exact q H10 (x07.trans (ExtN.of (s8.trans s8_10))) ((B7.ti.ext s8).ext s8_10)
end
end Kp
/-! repr of rows of ints; defs and calls of which it is known that no repr runs around them -/
namespace Kp
open PySem PySem.Spec PyProof.Rows L2 LamX NdefX
def dRow (n : Nat) (f : Nat → Int) : PyData := .list ((List.range n).map fun x => .int (f x))
def dRows (h n : Nat) (g : G2) : PyData := .list ((List.range h).map fun y => dRow n (g y))
/-- few rows of few ints -/
def rRepr (K : PySem.W.Frag) : List V → Hp → VK → Prop := fun xs H Q => ∃ (a : Addr) (ra : Nat → Addr) (h n : Nat) (g : G2), xs = [.ref a] ∧ Rows H a ra h n g ∧ h ≤ 3 ∧ n ≤ 3 ∧ Bd 999999999999999 h n g ∧ Q (.str (dRows h n g).shown) H
section
variable {K : PySem.W.Frag} {H : Hp} {h n : Nat} {g : G2} {f : Nat → Int}
theorem dpAll_tab {d : Nat → PyData} {v : Nat → V} {m : Nat} (h : ∀ i, i < m → Dp K H (v i) (d i)) : ∀ k j, j + k = m → DpAll K H ((List.range' j k).map v) ((List.range' j k).map d)
  | 0, j, _ => .nil
  | k + 1, j, e => by
    rw [List.range'_succ, List.map_cons, List.map_cons]
    exact .cons (h j (by omega)) (dpAll_tab h k (j + 1) (by omega))
theorem dp_rows {a : Addr} {ra : Nat → Addr} (R : Rows H a ra h n g) : Dp K H (.ref a) (dRows h n g) := by
  refine .lst (SqL.of R.top) ?_
  unfold tab
  rw [List.range_eq_range']
  refine dpAll_tab (m := h) (fun y hy => ?_) h 0 (by omega)
  refine .lst (SqL.of (R.row y hy)) ?_
  unfold irow tab
  rw [List.range_eq_range']
  exact dpAll_tab (m := n) (fun x _ => .int _) n 0 (by omega)
theorem small_int {i : Int} (h : -999999999999999 ≤ i ∧ i ≤ 999999999999999) : i.natAbs.log2 < 1920 ∧ (PyData.shown (.int i)).length ≤ 16 := by
  have h0 : i.natAbs < 10 ^ 15 := by omega
  refine ⟨?_, ?_⟩
  · by_cases z : i.natAbs = 0
    · rw [z]; decide
    · exact (Nat.log2_lt z).mpr (Nat.lt_of_lt_of_le h0 (by decide +kernel))
  · have e := int_text_length_le10 (k := 15) (by decide) h0
    show (Str.ofString (toString i)).length ≤ 16
    rw [PySem.ofString_length]
    exact e
theorem all_showable {α : Type} (d : α → PyData) : ∀ l : List α, (∀ x ∈ l, (d x).showable = true) → PyData.showableAll (l.map d) = true
  | [], _ => rfl
  | x :: l, h => by
    show ((d x).showable && PyData.showableAll (l.map d)) = true
    rw [h x List.mem_cons_self, all_showable d l fun y hy => h y (List.mem_cons_of_mem _ hy)]
    rfl
theorem all_nodict {α : Type} (d : α → PyData) : ∀ l : List α, (∀ x ∈ l, (d x).hasDict = false) → PyData.hasDictAll (l.map d) = false
  | [], _ => rfl
  | x :: l, h => by
    show ((d x).hasDict || PyData.hasDictAll (l.map d)) = false
    rw [h x List.mem_cons_self, all_nodict d l fun y hy => h y (List.mem_cons_of_mem _ hy)]
    rfl
theorem all_depth {α : Type} (d : α → PyData) (b : Nat) : ∀ l : List α, (∀ x ∈ l, (d x).depth ≤ b) → PyData.depthAll (l.map d) ≤ b
  | [], _ => Nat.zero_le _
  | x :: l, h => by
    show max (d x).depth (PyData.depthAll (l.map d)) ≤ b
    have h1 := h x List.mem_cons_self
    have h2 := all_depth d b l fun y hy => h y (List.mem_cons_of_mem _ hy)
    omega
theorem all_shown {α : Type} (d : α → PyData) (b : Nat) : ∀ l : List α, (∀ x ∈ l, (d x).shown.length ≤ b) → ((PyData.shownAll (l.map d)).map (·.length)).sum ≤ l.length * b ∧ (PyData.shownAll (l.map d)).length = l.length
  | [], _ => ⟨Nat.zero_le _, rfl⟩
  | x :: l, h => by
    have h1 := h x List.mem_cons_self
    obtain ⟨h2, h3⟩ := all_shown d b l fun y hy => h y (List.mem_cons_of_mem _ hy)
    refine ⟨?_, ?_⟩
    · show (((d x).shown :: PyData.shownAll (l.map d)).map (fun t => t.length)).sum ≤ _
      rw [List.map_cons, List.sum_cons, List.length_cons, Nat.succ_mul]
      omega
    · show ((d x).shown :: PyData.shownAll (l.map d)).length = _
      rw [List.length_cons, List.length_cons, h3]
theorem row_facts (hn : n ≤ 3) (hf : ∀ x, x < n → -999999999999999 ≤ f x ∧ f x ≤ 999999999999999) : (dRow n f).showable = true ∧ (dRow n f).hasDict = false ∧ (dRow n f).depth ≤ 1 ∧ (dRow n f).shown.length ≤ 60 := by
  have m : ∀ x ∈ List.range n, -999999999999999 ≤ f x ∧ f x ≤ 999999999999999 := fun x hx => hf x (List.mem_range.mp hx)
  have a1 : PyData.showableAll ((List.range n).map fun x => PyData.int (f x)) = true := all_showable (fun x => PyData.int (f x)) (List.range n) (fun x hx => decide_eq_true (small_int (m x hx)).1)
  have a2 : PyData.hasDictAll ((List.range n).map fun x => PyData.int (f x)) = false := all_nodict (fun x => PyData.int (f x)) (List.range n) (fun x hx => rfl)
  refine ⟨a1, a2, ?_, ?_⟩
  · have := all_depth (fun x => PyData.int (f x)) 0 (List.range n) fun x _ => Nat.le_refl 0
    show PyData.depthAll _ + 1 ≤ 1
    omega
  · obtain ⟨a, b⟩ := all_shown (fun x => PyData.int (f x)) 16 (List.range n) fun x hx => (small_int (m x hx)).2
    have c := listText_len_le (PyData.shownAll ((List.range n).map fun x => PyData.int (f x)))
    rw [List.length_range] at a b
    show (listText (PyData.shownAll ((List.range n).map fun x => PyData.int (f x)))).length ≤ 60
    omega
theorem rows_facts (hh : h ≤ 3) (hn : n ≤ 3) (hb : Bd 999999999999999 h n g) : (dRows h n g).showable = true ∧ (dRows h n g).hasDict = false ∧ (dRows h n g).depth ≤ 2 ∧ (dRows h n g).shown.length ≤ 300 := by
  have m := fun y (hy : y ∈ List.range h) => row_facts (f := g y) hn fun x hx => hb y x (List.mem_range.mp hy) hx
  have a1 : PyData.showableAll ((List.range h).map fun y => dRow n (g y)) = true := all_showable (fun y => dRow n (g y)) (List.range h) (fun y hy => (m y hy).1)
  have a2 : PyData.hasDictAll ((List.range h).map fun y => dRow n (g y)) = false := all_nodict (fun y => dRow n (g y)) (List.range h) (fun y hy => (m y hy).2.1)
  refine ⟨a1, a2, ?_, ?_⟩
  · have := all_depth (fun y => dRow n (g y)) 1 (List.range h) fun y hy => (m y hy).2.2.1
    show PyData.depthAll _ + 1 ≤ 2
    omega
  · obtain ⟨a, b⟩ := all_shown (fun y => dRow n (g y)) 60 (List.range h) fun y hy => (m y hy).2.2.2
    have c := listText_len_le (PyData.shownAll ((List.range h).map fun y => dRow n (g y)))
    rw [List.length_range] at a b
    show (listText (PyData.shownAll ((List.range h).map fun y => dRow n (g y)))).length ≤ 300
    omega
end
theorem call_reprG {X : Cx} {K : PySem.W.Frag} (hK : X.K = K) (hg : X.A.guards = some []) (hu : X.A.units + 64 < cLine) : CallR X (.builtin "repr") (rRepr K) := by
  subst hK
  intro pins s σ H xs us Q I r q
  obtain ⟨a, ra, h, n, g, rfl, R, hh, hn, hb, q⟩ := q
  obtain ⟨f1, f2, f3, f4⟩ := rows_facts hh hn hb
  cases r with
  | cons r1 rs =>
    cases rs
    cases r1
    obtain ⟨as, rd⟩ := Dp.reads I _ _ _ (dp_rows R) rfl
    exact repr_of_reads' rd f1 (fun z => by rw [f2] at z; cases z) hg (by omega) (fun _ _ e => e) (fun h' u tk hk => ⟨.str _, H, I.kept hk, ⟨u, rfl⟩, q⟩) (by rw [sizeLine_eq]; omega)
/-- as OkF, of calls around which no repr runs -/
structure OkG (P : Program) (w : World) (K : PySem.W.Frag) (mg : Str → Option Value) (base : Heap) (k : Nat) (f : Addr) (p : Pm) : Prop where
  ex : ∃ (fd : FuncData) (ps : List Str), (∀ vs H Q, p vs H Q → vs.length = ps.length) ∧ PySem.W.keepIn K (.ref f) = true ∧ Binds K fd ps [] ∧
    ∀ (A : Around) (outer : List Env) (s : Shared) (H : Hp) (args : Args) (us : List Value) (vs : List V) (Q : VK), A.guards = some [] → Room k A → Env0 P w K mg base A outer s H → BindsTo s fd args (ps.zip us) → Vals vs us → p vs H Q →
      codeAny (model P w) A (.call (.ref f) args) (CR CX0 outer P w H s Q E0) s
section
variable {P : Program} {w : World} {K : PySem.W.Frag} {mg : Str → Option Value} {base : Heap}
theorem okG {x qual : Str} {params : Arguments} {body : List Stmt} {scope : Scope} {f : Addr} {N ps : List Str} {k : Nat} {p : Pm}
    (F : ∃ fd, FunD K x qual params body scope [] [] f fd) (S : FnScope N ps scope) (len : ∀ vs H Q, p vs H Q → vs.length = ps.length)
    (hb : ∀ (kV doc pm : Value) (an : Option Addr) (cdv ct : Value) (us : List Value), us.length = ps.length → bindArgs (PySem.W.fnOf x qual params body scope .none kV doc pm an cdv ct) ⟨us, []⟩ = pure (ps.zip us))
    (hbody : ∀ (cdv : Value) (A : Around) (outer : List Env) (s : Shared) (H : Hp) (vs : List V) (Q : VK), A.guards = some [] → Room k (A.deeper (envOfC qual scope s.heap.objs.size f cdv)) → p vs H Q →
      ∃ t, PSs (cxOf CX0 P w K mg base N qual scope f cdv A outer s H E0).nox body t ∧ t { nx := fun _ H' => Q .non H', rt := Q } (start N vs) H) : OkG P w K mg base (k + 1) f p := by
  obtain ⟨fd, F⟩ := F
  have bd := F.bindsN hb
  have kp := F.kp
  obtain ⟨oc, od, dV, kV, doc, pm, an, cdv, ct, osl, rfl, lk, hcd, _, _⟩ := F.ex
  refine ⟨_, ps, len, kp, bd, fun A outer s H args us vs Q hG hr e0 hba r hsp => ?_⟩
  have hl := len _ _ _ hsp
  have KX : K.In s.heap := e0.mod.kin.keeps fun b o e => (e0.bs b o e).1
  have lim : s.heap.NoLimit := e0.mod.nolimit.keeps fun b o e => (e0.bs b o e).1
  have hkind : ∀ y ∈ ps.zip us, scope.names.lookup y.1 = some .local ∨ (scope.names.lookup y.1 = some .cell ∧ ((cellsFrom (s.heap.objs.size + 1) scope.names []).lookup y.1).isSome = true) := fun ⟨n, v⟩ hy => by
    rcases S.par n (List.of_mem_zip hy).1 with q | q
    · exact .inl q
    · exact .inr ⟨q, PySem.W.cellsFrom_some _ _ _ (.inl q)⟩
  refine codeAny_call_function hr.depth (KX _ _ lk) rfl S.co S.gen rfl (PySem.W.codeRec_of KX hcd) (hba _ _ _ _ ?_)
  refine wpAny_newFunctionEnv_cells S.kind hkind fun env he s1 x => ?_
  subst he
  refine ⟨lim.keeps x.toInCall.keep, codeAny_func ?_⟩
  have I := inv_start (E := E0) (CX := CX0) (P := P) (w := w) (mg := mg) (base := base) (K := K) S hr.hd e0 hl r x
  obtain ⟨t, ht, hq⟩ := hbody cdv A outer s H vs Q hG (hr.deeper _) hsp
  refine wpAny_mono (ht.nox.run [] _ _ H _ I hq) (fun fl s' hs => ?_) fun e s' hs => hs
  cases fl with
  | ret u =>
    obtain ⟨v, σ', H', J', rv, q⟩ := hs
    exact ⟨v, H', J'.os, J'.bare, J'.base, J'.hok, rv, q⟩
  | next =>
    obtain ⟨σ', H', J', q⟩ := hs
    exact ⟨V.non, H', J'.os, J'.bare, J'.base, J'.hok, rfl, q⟩
  | brk => exact False.elim hs.choose_spec.choose_spec.2
  | cont => exact False.elim hs.choose_spec.choose_spec.2
theorem pe_fG {X : Cx} {k : Nat} {f : Addr} {p : Pm} {x : Str} {ps0 pos : Pos} {e : Expr} {es : List Expr} {t : TA} (F : OkG X.prog X.w X.K X.mg X.base k f p) (hG : X.A.guards = some []) (hr : Room k X.A) (hg : Gl X x) (hm : X.mg x = some (.ref f)) (ha : PA X (e :: es) t)
    (hdb : (x == ("__debug__" : Str)) = false := by decide) (he : starEach (e :: es) X.env = (false, eval e X.env) :: starEach es X.env := by rfl) (hpl : (backTo pos (starEach es X.env)).any (·.1) = false := by rfl) :
    PE X (.Call (.Name x ps0) (e :: es) [] pos) (tF p t) := by
  obtain ⟨fd, ps, len, hk, b, run⟩ := F.ex
  refine ⟨fun pins s σ H Q I h => wpAny_Call_Name_kw (ld_glob I hg hm (PySem.W.callWith_K (h₀ := X.base) I.ok.mod.kin hk (thn (ha.run pos pins s σ H _ I h) fun us s2 ⟨vs, H2, I2, r, q⟩ => ⟨I2.kIn, ?_⟩) he hpl) hdb)⟩
  have hl : us.length = ps.length := by rw [← r.length]; exact len _ _ _ q
  have bt := b s2 us I2.kIn (by rw [List.append_nil]; exact hl)
  rw [List.append_nil] at bt
  refine wpAny_call (codeAny_mono (run X.A X.stack s2 H2 ⟨us, []⟩ us vs Q hG hr I2.env0 bt r q) fun r s' hq => ?_)
  cases r with
  | error e =>
    exact pass0 pins σ H2 s2 e s' I2 (by
      have z : CX0 X.stack H2 s2 E0 e s' := hq
      exact z.elim)
  | ok fl =>
    cases fl with
    | ret u => exact I2.after hq
    | next => exact False.elim hq
    | brk => exact False.elim hq
    | cont => exact False.elim hq
end
end Kp
/-! areas -/
namespace Kp
open PySem PySem.Spec PyProof.Rows L2 LamX NdefX
theorem FieldAt.congr {K : PySem.W.Frag} {H : Hp} {p : Addr} {h w : Nat} {g g' : G2} (F : FieldAt K H p h w g) (e : ∀ y x, y < h → x < w → g y x = g' y x) : FieldAt K H p h w g' := by
  obtain ⟨⟨dx, a, ra, e1, R⟩, z, b⟩ := F
  refine ⟨⟨dx, a, ra, e1, R.top, fun y hy => ?_⟩, z, fun y x hy hx => ?_⟩
  · rw [R.row y hy]
    exact congrArg (fun l => some (HO.lst l)) (tab_congr fun x hx => by rw [e y x hy hx])
  · rw [← e y x hy hx]
    exact b y x hy hx
section
variable {P : Program} {w : World} {K : PySem.W.Frag} {mg : Str → Option Value} {base : Heap}
theorem call_area (S : TX K mg) (TB : TabB base mg (askC K) (askP K)) {H1 : Hp} {f c' P2 k1 k2 k3 : Addr} {cl : List (Str × Addr)} {p a td : Addr} {ra : Nat → Addr} {h n : Nat} {r : Rl} {ws : List L} {g : G2} {tp lf ah aw : Nat} {Q : VK}
    (A : AnsIn K H1 f c' P2 k1 k2 k3 cl p a td ra h n r ws g) (z : 1 ≤ ah ∧ 1 ≤ aw ∧ tp + ah ≤ h ∧ lf + aw ≤ n) (bd : Bd 1000000000 h n g)
    (q : ∀ x H', Behind K H1 H' td P2 (needM r (h, n) ws (· ∈ (areaP tp lf ah aw).pl)) → FieldAt K H' x ah aw (fun y x => backM r (h, n) ws g (tp + y) (lf + x)) → Q (.ref x) H') :
    ∃ D : List Addr, Exts H1 D ∧ ∀ base' : Heap, Mod K mg base' → (∀ b o, base.get? b = some o → base'.get? b = some o) → (∀ a ∈ D, ∀ φ, H1 a = some (.ext φ) → φ base') → (∀ b o, delL H1 D b = some o → base'.get? b = none) →
      p_area_from P w K mg base' 25 [.ref p, .ref f, .int (tp : Nat), .int (lf : Nat), .int (ah : Nat), .int (aw : Nat)] (delL H1 D) fun v H2 => (∀ a ∈ D, H2 a = none) → Q v (putL H2 D H1) := by
  have hD := A.exts
  have ok := A.pl.ok
  refine ⟨own5 f c' k1 k2 k3, hD, fun base' mod up kn un => ?_⟩
  obtain ⟨ask, aj⟩ := ans_ok (P := P) (w := w) S TB A mod up kn un (needM r (h, n) ws (· ∈ (areaP tp lf ah aw).pl))
  have up0 : ∀ {b : Addr} {o : HO}, H1 b = some o → (∀ φ, o ≠ .ext φ) → delL H1 (own5 f c' k1 k2 k3) b = some o := fun {b o} e n => (delL_out (hD.out e n)).trans e
  have plS : ∀ H, ExtS (· = td) (delL H1 (own5 f c' k1 k2 k3)) H → PlanAt K H p h n r ws := fun H x => plan_stay A.pl A.told fun b o e n1 n2 n3 => x b o (up0 e n3) n1 n2
  have ig : InG (h, n) (· ∈ (areaP tp lf ah aw).pl) := fun x hx => by
    have := mem_pl.mp hx
    simp only [areaP] at this
    dsimp only
    omega
  refine ⟨p, f, h, n, r, ws, tp, lf, ah, aw, _, _, _, _, g, rfl, plS _ (ExtS.refl _ _), plS, ask, aj, z, fun pls hp => ?_, fun pls x H2 hp j e F hn => ?_⟩
  · have b0 : BdS 1000000000 (h, n) (maskL pls g) := mask_bd (by decide) bd
    refine ⟨fun k Ha tt x QQ hk ja hta hx cont => ?_, b0, b0.mono (by decide), back_in ok A.shp b0⟩
    have al := (hp x).mp hx
    obtain ⟨x1, x2⟩ := nd_in ig _ x al
    exact ⟨k, tt, x, rfl, hk, ja, hta, al, x1, x2, fun H2 j2 kb => cont H2 j2 kb.extS⟩
  · refine q x _ (behind A j hn) ((F.congr fun y x hy hx => ?_).same fun b o e => ?_)
    · exact back_need (A := (· ∈ (areaP tp lf ah aw).pl)) ok (fun x hx => if_pos ((hp x).mpr hx)) (tp + y, lf + x) (mem_pl.mpr (by simp only [areaP]; omega))
    · rw [putL_out fun z => by rw [hn b z] at e; cases e]
      exact e
theorem min3 {a b : Nat} (h : b < a) : (if (((a : Nat) : Int) - ((b : Nat) : Int)) < 3 then (((a : Nat) : Int) - ((b : Nat) : Int)) else 3) = ((min 3 (a - b) : Nat) : Int) := by split <;> omega
theorem lof_cat {α : Type} {H : Hp} {D E R : Addr} {ta tb : Nat → Addr} {xs ys : List α} {o : α → HO} (r : LOf H D ta xs o) (r2 : LOf H E tb ys o) (hR : H R = none) :
    LOf (upd H R (.lst ((tab xs.length fun i => V.ref (ta i)) ++ tab ys.length fun i => V.ref (tb i)))) R (cat ta xs.length tb) (xs ++ ys) o := by
  refine ⟨?_, fun i x e => ?_⟩
  · rw [upd_same, tab_app, List.length_append]
    refine congrArg (fun l => some (HO.lst l)) (tab_congr fun i _ => ?_)
    unfold cat
    split <;> rfl
  · have q := r.cat_it r2 i x e
    rw [upd_ne (ne_of_none q hR)]
    exact q
theorem box_ne {H : Hp} {bx b : Addr} {nb m : Nat} {f : Nat → V} (B : BoxAt H bx nb) (e : H b = some (.lst (tab m f))) (h : m = 3 → ∃ a, f 0 = .ref a) : b ≠ bx := fun z => by
  obtain ⟨b0, b1, c, e2, _⟩ := B
  rw [z, e2] at e
  injection e with e
  injection e with e
  have hm := congrArg List.length e
  rw [tab_len] at hm
  obtain ⟨a, ea⟩ := h hm.symm
  have h0 : (tab m f)[0]? = some (V.int b0) := by rw [← e]; rfl
  rw [tab_get (by rw [← hm]; show 0 < 3; decide), ea] at h0
  cases h0
theorem plan_box {K : PySem.W.Frag} {H H' : Hp} {bx p : Addr} {nb h n : Nat} {r : Rl} {ws : List L} (Pl : PlanAt K H p h n r ws) (B : BoxAt H bx nb) (k : Kept (· = bx) H H') : PlanAt K H' p h n r ws := by
  obtain ⟨⟨dx, ru, ca, ta, hp, ⟨rx, hr⟩, c⟩, z, ok⟩ := Pl
  exact ⟨⟨dx, ru, ca, ta, k _ _ hp (B.ne hp fun _ z => by cases z), ⟨rx, k _ _ hr (B.ne hr fun _ z => by cases z)⟩, ⟨k _ _ c.top (box_ne B c.top fun _ => ⟨_, rfl⟩), fun i hi => k _ _ (c.it i hi) (B.ne (c.it i hi) fun _ z => by unfold cT at z; cases z)⟩⟩, z, ok⟩
theorem ti_box {H H' : Hp} {bx P0 : Addr} {nb : Nat} {qA qL : Str} (t : TI P0 qA qL H) (B : BoxAt H bx nb) (k : Kept (· = bx) H H') : TI P0 qA qL H' := by
  obtain ⟨ps, e1, e2, e3⟩ := t
  refine ⟨ps, k _ _ e1 (B.ne e1 fun _ z => by cases z), e2, fun pos cv hc => ?_⟩
  obtain ⟨c, P3, a1, a2, a3, qs, b1, b2, b3⟩ := e3 pos cv hc
  refine ⟨c, P3, a1, a2, k _ _ a3 (B.ne a3 fun _ z => by cases z), qs, k _ _ b1 (B.ne b1 fun _ z => by cases z), b2, fun pos' cv' hc' => ?_⟩
  obtain ⟨c0, d1, d2⟩ := b3 pos' cv' hc'
  exact ⟨c0, d1, k _ _ d2 (B.ne d2 fun _ z => by cases z)⟩
theorem lof_stay {H H' : Hp} {D : Addr} {ta : Nat → Addr} {xs : List (Nat × Nat)} (l : LOf H D ta xs cT) (k : ∀ b o, H b = some o → (∀ ps, o ≠ .tbl ps) → H' b = some o) : LOf H' D ta xs cT := ⟨k _ _ l.top (fun _ z => by cases z), fun i x e => k _ _ (l.it i x e) (fun _ z => by unfold cT at z; cases z)⟩
theorem fRe_inj {c c' : RdC} {cu cu' : Nat} {e e' : Bool} (h : fRe c cu e = fRe c' cu' e') : c.a = c'.a ∧ c.l = c'.l := by
  unfold fRe fR at h
  simp only [List.cons_append, List.nil_append, List.cons.injEq, Prod.mk.injEq, V.ref.injEq, true_and] at h
  exact ⟨h.2.2.2.2.2.1, h.2.2.2.2.2.2.2.1⟩
theorem readn_stay {K : PySem.W.Frag} {H H' : Hp} {p : Addr} {N : Addr → Prop} (x : ReadN K H p N) (k : ∀ C dx fs, H p = some (.ins C dx fs) → H' p = some (.ins C dx fs)) : ReadN K H' p N := by
  obtain ⟨c, cu, e, a1, a2, a3, a4⟩ := x
  exact ⟨c, cu, e, a1, k _ _ _ a2, a3, a4⟩
theorem readq_box {K : PySem.W.Frag} {H H' : Hp} {bx p : Addr} {nb h n : Nat} {r : Rl} {ws : List L} {g : G2} {Q2 : Nat → Nat → Nat} {N : Addr → Prop} (x : ReadQ K H p h n r ws g Q2) (y : ReadN K H p N) (hN : N bx) (B : BoxAt H bx nb) (k : Kept (· = bx) H H') : ReadQ K H' p h n r ws g Q2 := by
  obtain ⟨c, cu, e, to, e1, e2, e3, e4, e5, e6, e7⟩ := x.at_
  obtain ⟨c2, cu2, ee2, a1, a2, a3, a4⟩ := y
  rw [e2] at a2
  injection a2 with a2
  injection a2 with _ _ a2
  obtain ⟨i1, i2⟩ := fRe_inj a2
  have na : c.a ≠ bx := fun z => a3 (by rw [← i1, z]; exact hN)
  have nl : c.l ≠ bx := fun z => a4 (by rw [← i2, z]; exact hN)
  have nb' : c.b ≠ bx := fun z => by
    obtain ⟨b0, b1, cc, q2, _⟩ := B
    rw [z, q2] at e6
    injection e6 with e6
    injection e6 with e6
    have hm := congrArg List.length e6
    rw [tab_len] at hm
    have h1 := tab_get (n := h * n) (i := 0) (f := fun j => V.bl (mns (Q2 (oAt h n ws j).1 (oAt h n ws j).2) (g (oAt h n ws j).1 (oAt h n ws j).2))) (by rw [← hm]; show 0 < 3; decide)
    rw [← e6] at h1
    cases h1
  exact ⟨⟨c, cu, e, to, e1, k _ _ e2 (B.ne e2 fun _ z => by cases z), plan_box e3 B k, ⟨k _ _ e4.top (box_ne B e4.top fun _ => ⟨_, rfl⟩), fun i x e => k _ _ (e4.it i x e) (B.ne (e4.it i x e) fun _ z => by unfold cT at z; cases z)⟩, k _ _ e5 na, k _ _ e6 nb', k _ _ e7 nl⟩, x.le⟩
def p_law_areas_right (K : PySem.W.Frag) : Pm := fun vs H Q => ∃ (bx p rl t : Addr) (rd : Nat → Addr) (nb h w : Nat) (r : Rl) (ws : List L) (g : G2) (QQ : Nat → Nat → Nat → Nat), vs = [.ref bx, .ref p, .ref rl, .ref t] ∧ BoxAt H bx nb ∧ nb ≤ 500 ∧ TI (askP K) qAns qLam H ∧ PlanAt K H p h w r ws ∧ H rl = some (.lst (tab 3 fun i => .ref (rd i))) ∧ (∀ i, i < 3 → ReadQ K H (rd i) h w r ws (halvedM r (h, w) ws g) (QQ i) ∧ ReadN K H (rd i) (· = bx)) ∧ H t = some (cT (h, w)) ∧ Shp (h, w) ∧ Bd 100000 h w g ∧
  ∀ H', (∀ b o, H b = some o → b ≠ bx → (∀ ps, o ≠ .tbl ps) → H' b = some o) → TI (askP K) qAns qLam H' → Q (.bl true) H'
theorem ok_law_areas_right (S : TX K mg) (TB : TabB base mg (askC K) (askP K)) : OkG P w K mg base 49 (He.ga K "_law_areas_right") (p_law_areas_right K) := by
  refine okG (F_law_areas_right S) sc_law_areas_right (by tm_at "len") (fun _ _ _ _ _ _ us hl => match us, hl with | [_, _, _, _], _ => rfl) (fun cdv A outer s H vs Q hG hr h => ?_)
  obtain ⟨bx, p, rl, t, rd, nb, h, n, r, ws, g, QQ, rfl, B, hnb, ti, Pl, erl, RQ, et, shp, bd, q⟩ := h
  refine ⟨_, (pss_cons (ps_set (i := 4) sc_law_areas_right.nd rfl (Or.inl rfl) (pe_f (ok_law_take S) (hr.mono (by decide)) rfl (glo_law_take S) (pa_cons (pv 0) (pa_cons (pe_ix (kIxT (K := K) rfl) (pv 3) pe_int (fun _ _ => rfl)) pa_nil))))
    (pss_cons (ps_set (i := 5) sc_law_areas_right.nd rfl (Or.inr rfl) (pe_f (ok_law_take S) (hr.mono (by decide)) rfl (glo_law_take S) (pa_cons (pv 0) (pa_cons (pe_ix (kIxT (K := K) rfl) (pv 3) pe_int (fun _ _ => rfl)) pa_nil))))
    (pss_cons (ps_set (i := 6) sc_law_areas_right.nd rfl (Or.inl rfl) (pe_op op_add pe_int (pe_f (ok_law_take S) (hr.mono (by decide)) rfl (glo_law_take S) (pa_cons (pv 0) (pa_cons (pe_callB (call_min2 rfl) rfl (fr_min S) bt_min (pa_cons pe_int (pa_cons (pe_op op_sub (pe_ix (kIxT (K := K) rfl) (pv 3) pe_int (fun _ _ => rfl)) (pv 4)) pa_nil))) pa_nil)))))
    (pss_cons (ps_set (i := 7) sc_law_areas_right.nd rfl (Or.inr rfl) (pe_op op_add pe_int (pe_f (ok_law_take S) (hr.mono (by decide)) rfl (glo_law_take S) (pa_cons (pv 0) (pa_cons (pe_callB (call_min2 rfl) rfl (fr_min S) bt_min (pa_cons pe_int (pa_cons (pe_op op_sub (pe_ix (kIxT (K := K) rfl) (pv 3) pe_int (fun _ _ => rfl)) (pv 5)) pa_nil))) pa_nil)))))
    (pss_cons (ps_set (i := 8) sc_law_areas_right.nd rfl (Or.inl rfl) (pe_lst pa_nil))
    (pss_cons (ps_for PassesOwn.never rfl (pi_range1 rfl (fr_range S) (pa_cons (pe_op op_mul (pv 6) (pv 7)) pa_nil)) (pg_name (i := 9) sc_law_areas_right.nd rfl (Or.inl rfl)) (pss_one (ps_set (i := 8) sc_law_areas_right.nd rfl (Or.inl rfl) (pe_op op_cat (pv 8) (pe_f (ok_needs S) (hr.mono (by decide)) rfl (glo_needs S) (pa_cons (pv 1) (pa_cons (pe_tup (pa_cons (pe_op op_add (pv 4) (pe_op op_fdiv (pv 9) (pv 7))) (pa_cons (pe_op op_add (pv 5) (pe_op op_mod (pv 9) (pv 7))) pa_nil))) pa_nil)))))))
    (pss_cons (ps_for PassesOwn.never rfl (kList (K := K) rfl (pv 2)) (pg_name (i := 10) sc_law_areas_right.nd rfl (Or.inl rfl)) (pss_cons (ps_set (i := 11) sc_law_areas_right.nd rfl (Or.inl rfl) (pe_lst pa_nil))
    (pss_cons (ps_set (i := 12) sc_law_areas_right.nd rfl (Or.inl rfl) (pe_fr (fun b => ok_area_from (base := b) S 25) (hr.mono (by decide)) rfl (glo_area_from S) (pa_cons (pv 1) (pa_cons (pe_f (ok_law_asked S TB) (hr.mono (by decide)) rfl (glo_law_asked S) (pa_cons (pv 1) (pa_cons (pe_mt0 (pe_mt0 (pv 10) (cls_Reading S) (me_Reading_numbers S) (ok_Reading_numbers S) (hr.mono (by decide))) (cls_Field S) (me_Field_rows S) (ok_Field_rows S) (hr.mono (by decide))) (pa_cons (pv 11) pa_nil)))) (pa_cons (pv 4) (pa_cons (pv 5) (pa_cons (pv 6) (pa_cons (pv 7) pa_nil))))))))
    (pss_cons (ps_set (i := 13) sc_law_areas_right.nd rfl (Or.inl rfl) (pe_mt0 (pe_f (ok_put_back S) (hr.mono (by decide)) rfl (glo_put_back S) (pa_cons (pv 1) (pa_cons (pe_mt0 (pv 10) (cls_Reading S) (me_Reading_numbers S) (ok_Reading_numbers S) (hr.mono (by decide))) pa_nil))) (cls_Field S) (me_Field_rows S) (ok_Field_rows S) (hr.mono (by decide))))
    (pss_cons (ps_setLc (i := 14) (own := [("_law_row", 15)]) (g := gName 15) (tt := tYes)  rfl sc_law_areas_right.nd rfl rfl (sw_true rfl rfl rfl (by decide +kernel)) (kList (K := K) rfl (pe_slice (kSlL (K := K) rfl) (pv 13) (po_some (pv 4)) (po_some (pe_op op_add (pv 4) (pv 6))))) (blkOk_by (own := [("_law_row", 15)]) (N := ["_law_box_here", "_law_plan", "_law_readings", "_law_size", "_law_top", "_law_left", "_law_high", "_law_wide", "_law_places", "_law_at", "_law_reading", "_law_told", "_law_found", "_law_whole_here", "_law_due", "_law_row"]) (sc := defScope s_law_areas_right) (by decide +kernel)) (fun _ _ _ _ _ => (pg_name (i := 15) sc_law_areas_right.nd rfl (Or.inl rfl))) (fun _ _ _ _ _ => pts_nil) (fun _ _ _ _ _ => (pe_slice (kSlL (K := K) rfl) (pv 15) (po_some (pv 5)) (po_some (pe_op op_add (pv 5) (pv 7))))))
    (pss_one (ps_if (PW.pt (pw_or (pt_not (pt_val (pe_callB (C8.call_isC (insC_Field S)) rfl (fr_isinstance S) bt_isinstance (pa_cons (pv 12) (pa_cons (pe_glob (v := .ref (He.ga K "Field")) rfl (glo_Field S) rfl) pa_nil))))) (pw_or (pt_cmpR op_ne (pe_callB (call_reprG (K := K) rfl hG hr.units) rfl (fr_repr S) bt_repr (pa_cons (pe_mt0 (pv 12) (cls_Field S) (me_Field_rows S) (ok_Field_rows S) (hr.mono (by decide))) pa_nil)) (pe_callB (call_reprG (K := K) rfl hG hr.units) rfl (fr_repr S) bt_repr (pa_cons (pv 14) pa_nil)) (nomark _)) (pw_or1 (pt_not (pt_val (pe_f (ok_law_among S) (hr.mono (by decide)) rfl (glo_law_among S) (pa_cons (pv 11) (pa_cons (pv 8) pa_nil))))))))) (pss_one (ps_ret pe_bl)) pss_nil)))))))
    (pss_one (ps_ret pe_bl))))))))), ?_⟩
  have z := Pl.sz
  have z1 := z.h1
  have z2 := z.h2
  have z3 := z.w1
  have z4 := z.w2
  have ok := Pl.ok
  tm_at "go"
  refine gIxT (SqT.of et) (i := 0) rfl ?_
  tm_at "go"
  refine ⟨bx, nb, h, rfl, B, by omega, by omega, by omega, fun tp H1 htp k1 B1 => ?_⟩
  tm_at "go"
  refine gIxT (SqT.of (k1 _ _ et (B.ne et fun xs z => by unfold cT at z; cases z))) (i := 1) rfl ?_
  tm_at "go"
  refine ⟨bx, nb + 1, n, rfl, B1, by omega, by omega, by omega, fun lf H2 hlf k2 B2 => ?_⟩
  tm_at "go"
  have k02 := k1.trans k2
  have et2 := k02 _ _ et (B.ne et fun xs z => by unfold cT at z; cases z)
  refine gIxT (SqT.of et2) (i := 0) rfl ?_
  tm_at "go"
  refine ⟨_, _, rfl, ?_⟩
  rw [show (if ((((h, n).1 : Nat) : Int) - ((tp : Nat) : Int)) < 3 then ((((h, n).1 : Nat) : Int) - ((tp : Nat) : Int)) else 3) = ((min 3 (h - tp) : Nat) : Int) from min3 htp]
  tm_at "go"
  refine ⟨bx, nb + 2, min 3 (h - tp), rfl, B2, by omega, by omega, by omega, fun d1 H3 hd1 k3 B3 => ?_⟩
  tm_at "go"
  have k03 := k02.trans k3
  have et3 := k03 _ _ et (B.ne et fun xs z => by unfold cT at z; cases z)
  refine gIxT (SqT.of et3) (i := 1) rfl ?_
  tm_at "go"
  refine ⟨_, _, rfl, ?_⟩
  rw [show (if ((((h, n).2 : Nat) : Int) - ((lf : Nat) : Int)) < 3 then ((((h, n).2 : Nat) : Int) - ((lf : Nat) : Int)) else 3) = ((min 3 (n - lf) : Nat) : Int) from min3 hlf]
  tm_at "go"
  refine ⟨bx, nb + 3, min 3 (n - lf), rfl, B3, by omega, by omega, by omega, fun d2 H4 hd2 k4 B4 => ?_⟩
  have k04 := k03.trans k4
  rw [show (1 : Int) + ((d1 : Nat) : Int) = ((1 + d1 : Nat) : Int) from rfl]
  have ah : 1 ≤ 1 + d1 ∧ 1 + d1 ≤ 3 ∧ tp + (1 + d1) ≤ h := by omega
  generalize 1 + d1 = ah' at *
  tm_at "go"
  rw [show (1 : Int) + ((d2 : Nat) : Int) = ((1 + d2 : Nat) : Int) from rfl]
  have aw : 1 ≤ 1 + d2 ∧ 1 + d2 ≤ 3 ∧ lf + (1 + d2) ≤ n := by omega
  generalize 1 + d2 = aw' at *
  have st4 : ∀ b o, H b = some o → b ≠ bx → H4 b = some o := fun b o e nb => k04 b o e nb
  have nbx : ∀ {b : Addr} {o : HO}, H b = some o → (∀ xs, o ≠ .lst xs) → b ≠ bx := fun e n => B.ne e n
  refine ⟨Nat.zero_le _, fun L0 hL0 => ?_⟩
  have e0 := upd_same (H := H4) (a := L0) (o := .lst [])
  have s0 := Same.new (H := H4) (p := L0) (o := .lst []) hL0
  have am : ah' * aw' ≤ 9 := Nat.mul_le_mul ah.2.1 aw.2.1
  have a0 : 0 < aw' := aw.1
  tm_at "go"
  refine gI (.inl ⟨by omega, by omega⟩) ?_
  tm_at "go"
  rw [← Int.natCast_mul]
  refine gR1 (by omega) ?_
  rw [Int.toNat_natCast]
  generalize hg0 : upd H4 L0 (.lst []) = H50 at *
  have Pl4 : PlanAt K H4 p h n r ws := plan_box Pl B k04
  refine forIt (wRange (m := ah' * aw')) (fun i σ H' => Same H4 H' ∧ ∃ (L : Addr) (tq : Nat → Addr) (pls : List (Nat × Nat)) (v1 : Option V), LOf H' L tq pls cT ∧ pls.length ≤ i * 4096 ∧ (∀ j x, j < i → needM r (h, n) ws (· = (tp + j / aw', lf + j % aw')) x → x ∈ pls) ∧
      σ = [some (.ref bx), some (.ref p), some (.ref rl), some (.ref t), some (.int (tp : Nat)), some (.int (lf : Nat)), some (.int (ah' : Nat)), some (.int (aw' : Nat)), some (.ref L), v1, none, none, none, none, none, none])
    ⟨s0, L0, fun _ => 0, [], none, LOf.nil e0, Nat.zero_le _, fun j x hj => absurd hj (by omega), rfl⟩ (fun _ _ _ _ _ => trivial) ?_ ?_
  · rintro i x σ H5 H6 hi ⟨s5, L, tq, pls, v1, lo, ll, hin, rfl⟩ ⟨rfl, rfl⟩
    have j1 : i / aw' < ah' := Nat.div_lt_of_lt_mul (by rw [Nat.mul_comm]; exact hi)
    have j2 : i % aw' < aw' := Nat.mod_lt _ a0
    have ll2 : pls.length ≤ 40000 := by omega
    tm_at "go"
    refine gI ⟨by omega, by omega⟩ ?_
    tm_at "go"
    refine gI (by show (0 : Int) < (aw' : Int); omega) ?_
    tm_at "go"
    rw [show ((tp : Nat) : Int) + ((i : Nat) : Int) / ((aw' : Nat) : Int) = ((tp + i / aw' : Nat) : Int) from rfl, show ((lf : Nat) : Int) + ((i : Nat) : Int) % ((aw' : Nat) : Int) = ((lf + i % aw' : Nat) : Int) from rfl]
    refine ⟨szL rfl, fun t6 ht6 => ?_⟩
    generalize hg6 : upd _ _ _ = H7
    obtain ⟨s7, e7⟩ := newF hg6 ht6
    have s47 := s5.trans s7
    refine ⟨p, t6, h, n, r, ws, (tp + i / aw', lf + i % aw'), rfl, Pl4.same s47, e7, ⟨by dsimp only; omega, by dsimp only; omega⟩, fun D H8 tb2 pls2 s8 nD nd hpl lp => ?_⟩
    have len2 : pls2.length ≤ 4096 := grid_len nd fun x hx => by
      have := nd_in (c := (h, n)) (A := (· = (tp + i / aw', lf + i % aw'))) (fun y hy => by rw [hy]; dsimp only; omega) _ x ((hpl x).mp hx)
      dsimp only at this
      omega
    have lo8 := (lo.same s7).same s8
    refine ⟨L, D, _, _, rfl, rfl, lo8.top, lp.top, by rw [tab_len, tab_len]; exact line_le (by omega), fun R hR => ?_⟩
    tm_at "go"
    refine ⟨(s47.trans s8).trans (Same.new hR), R, _, _, _, lof_cat lo8 lp hR, by rw [List.length_append]; omega, fun j x hj hx => ?_, rfl⟩
    by_cases e : j = i
    · rw [e] at hx
      exact List.mem_append.mpr (.inr ((hpl x).mpr hx))
    · exact List.mem_append.mpr (.inl (hin j x (by omega) hx))
  rintro σ H5 ⟨s5, L, tq, pls, v1, lo, ll, hin, rfl⟩
  have sub : ∀ x, needM r (h, n) ws (· ∈ (areaP tp lf ah' aw').pl) x → x ∈ pls := fun x hx => by
    obtain ⟨pp, hp1, hp2⟩ := need_one hx
    have hm := mem_pl.mp hp1
    simp only [areaP] at hm
    have e1 : ((pp.1 - tp) * aw' + (pp.2 - lf)) / aw' = pp.1 - tp := by rw [Nat.add_comm, Nat.add_mul_div_right _ _ a0, Nat.div_eq_of_lt (by omega), Nat.zero_add]
    have e2 : ((pp.1 - tp) * aw' + (pp.2 - lf)) % aw' = pp.2 - lf := by rw [Nat.add_comm, Nat.add_mul_mod_self_right, Nat.mod_eq_of_lt (by omega)]
    have e3 := row_le (n := aw') (show pp.1 - tp < ah' by omega)
    refine hin ((pp.1 - tp) * aw' + (pp.2 - lf)) x (by omega) ?_
    rw [e1, e2]
    have e4 : (tp + (pp.1 - tp), lf + (pp.2 - lf)) = pp := Prod.ext (by dsimp only; omega) (by dsimp only; omega)
    rw [e4]
    exact hp2
  clear hin
  have st5 : ∀ b o, H b = some o → b ≠ bx → H5 b = some o := fun b o e nb => s5 b o (st4 b o e nb)
  have erl5 : H5 rl = some (.lst (tab 3 fun i => .ref (rd i))) := by
    refine st5 _ _ erl fun z => ?_
    obtain ⟨b0, b1, c, e2, _⟩ := B
    rw [z, e2] at erl
    injection erl with erl
    injection erl with erl
    injection erl with e _
    cases e
  have Pl5 := Pl4.same s5
  have ti5 : TI (askP K) qAns qLam H5 := ti_box ti B k04 |>.ext s5
  have RQ5 : ∀ i, i < 3 → ReadQ K H5 (rd i) h n r ws (halvedM r (h, n) ws g) (QQ i) := fun i hi => (readq_box (RQ i hi).1 (RQ i hi).2 rfl B k04).keep s5
  have bN : BdS 656100000 (h, n) (halvedM r (h, n) ws g) := halved_in ok shp bd
  generalize hN : halvedM r (h, n) ws g = N at *
  tm_at "go"
  refine gL1 (SqL.of erl5) ?_
  refine forIt (wTab (m := 3) (f := fun i => .ref (rd i))) (fun i σ H' => (∀ b o, H5 b = some o → (∀ ps, o ≠ .tbl ps) → H' b = some o) ∧ TI (askP K) qAns qLam H' ∧ ∃ v9 v10 v11 v12 v13 v14 v15 : Option V, σ = [some (.ref bx), some (.ref p), some (.ref rl), some (.ref t), some (.int (tp : Nat)), some (.int (lf : Nat)), some (.int (ah' : Nat)), some (.int (aw' : Nat)), some (.ref L), v9, v10, v11, v12, v13, v14, v15])
    ⟨fun b o e _ => e, ti5, v1, none, none, none, none, none, none, rfl⟩ (fun i σ H' _ z => SqL.of (z.1 _ _ erl5 (fun _ z => by cases z))) ?_ ?_
  · rintro i x σ H6 H7 hi ⟨st6, ti6, v9, v10, v11, v12, v13, v14, v15, rfl⟩ ⟨rfl, rfl⟩
    have bA : BdS 656100000 (h, n) (numF (QQ i) N) := fun y x hy hx => rdv_in (bN y x hy hx)
    have bB := back_in (r := r) ok shp (bA.mono (by decide))
    tm_at "go"
    refine ⟨szL rfl, fun td htd => ?_⟩
    generalize hg8 : upd _ _ _ = H8
    obtain ⟨s8, e8⟩ := newF hg8 htd
    have RQ8 := (readq_stay' (RQ5 i hi) st6).keep s8
    have Pl8 := (plan_stay' Pl5 st6).same s8
    obtain ⟨⟨rc, rcu, re, rto, hrc, hrd, _⟩, _⟩ := id RQ8
    tm_at "go"
    refine gFR ?_
    tm_at "go"
    refine gMeE hrd rfl ?_
    tm_at "go"
    refine ⟨rd i, h, n, r, ws, N, QQ i, rfl, RQ8, (bN.mono (by decide) : BdS 1000000000 (h, n) N), fun x1 H9 s9 F9 => ?_⟩
    obtain ⟨⟨dx1, l1, r1, e1, _⟩, _, _⟩ := id F9
    refine gMeE e1 rfl ?_
    tm_at "go"
    refine ⟨x1, h, n, _, rfl, F9, fun a2 ra2 H10 NL => ?_⟩
    have R10 := Rows.of NL
    have s810 := s9.trans NL.same
    tm_at "go"
    refine ⟨_, _, _, rfl, (ti6.ext s8).ext s810, fun f c' P2 k1 k2 k3 cl H11 x11 _ _ _ _ AS => ?_⟩
    tm_at "go"
    have st11 : ∀ b o, H8 b = some o → (∀ ps, o ≠ .tbl ps) → H11 b = some o := fun b o e m => x11 b o (s810 _ _ e) m
    have An : AnsIn K H11 f c' P2 k1 k2 k3 cl p a2 td ra2 h n r ws (numF (QQ i) N) := ⟨AS, plan_stay' Pl8 st11, rows_stay' R10 fun b o e m => x11 b o e m, st11 _ _ e8 (fun _ z => by cases z), shp, (bA.mono (by decide) : BdS 999999997 (h, n) (numF (QQ i) N))⟩
    refine call_area S TB An ⟨ah.1, aw.1, ah.2.2, aw.2.2⟩ (bA.mono (by decide) : BdS 1000000000 (h, n) (numF (QQ i) N)) fun fnd H12 B12 F12 => ?_
    have x712 : ExtN H7 H12 := B12.extN ((ExtN.of (s8.trans s810)).trans x11) htd
    have st12 : ∀ b o, H5 b = some o → (∀ ps, o ≠ .tbl ps) → H12 b = some o := fun b o e m => x712 b o (st6 b o e m) m
    have RQ12 := readq_stay' (RQ5 i hi) st12
    have Pl12 := plan_stay' Pl5 st12
    obtain ⟨⟨rc2, rcu2, re2, rto2, hrc2, hrd2, _⟩, _⟩ := id RQ12
    obtain ⟨ts, qs, lt, la⟩ := B12.told
    tm_at "go"
    refine gMeE hrd2 rfl ?_
    tm_at "go"
    refine ⟨rd i, h, n, r, ws, N, QQ i, rfl, RQ12, (bN.mono (by decide) : BdS 1000000000 (h, n) N), fun x13 H13 s13 F13 => ?_⟩
    tm_at "go"
    refine ⟨p, x13, h, n, r, ws, _, rfl, Pl12.same s13, F13, (bA.mono (by decide) : BdS 1000000000 (h, n) (numF (QQ i) N)), bB, fun x14 H14 s14 F14 => ?_⟩
    obtain ⟨⟨dx14, l14, r14, e14, _⟩, _, _⟩ := id F14
    refine gMeE e14 rfl ?_
    tm_at "go"
    refine ⟨x14, h, n, _, rfl, F14, fun a15 ra15 H15 NL15 => ?_⟩
    have R15 := Rows.of NL15
    have s1215 := (s13.trans s14).trans NL15.same
    tm_at "go"
    refine gSlL (SqL.of R15.top) fun S1 hS1 => ?_
    generalize hg16 : upd _ _ _ = H16
    obtain ⟨s16, e16⟩ := newF hg16 hS1
    rw [show ((tp : Nat) : Int) + ((ah' : Nat) : Int) = ((tp + ah' : Nat) : Int) from rfl, tab_cut (a := tp) (b := tp + ah') (sIx_nat (by omega)) (sIx_nat (by omega)) ah.2.2] at e16
    rw [show tp + ah' - tp = ah' by omega] at e16
    have R16 := R15.same s16
    refine gL1 (SqL.of e16) ?_
    intro D hD
    refine lcIt (wTab (m := ah') (f := fun y => .ref (ra15 (tp + y)))) (fun y H' => ∃ rb, NewL H16 H' D y rb fun y => .lst (irow aw' fun x => backM r (h, n) ws (numF (QQ i) N) (tp + y) (lf + x))) ⟨fun _ => 0, NewL.nil hD⟩ (fun y H' _ ⟨rb, z⟩ => SqL.of (z.same _ _ e16)) ?_ ?_
    · rintro y x H17 H18 hy ⟨rb, N17⟩ ⟨rfl, rfl⟩
      tm_at "go"
      refine ⟨rfl, ?_⟩
      tm_at "go"
      have er := N17.same _ _ (R16.row (tp + y) (by omega))
      refine gSlL (SqL.of er) fun S2 hS2 => ?_
      rw [show ((lf : Nat) : Int) + ((aw' : Nat) : Int) = ((lf + aw' : Nat) : Int) from rfl]
      unfold irow
      rw [tab_cut (a := lf) (b := lf + aw') (sIx_nat (by omega)) (sIx_nat (by omega)) aw.2.2, show lf + aw' - lf = aw' by omega]
      exact ⟨_, get_new hS2 N17.top, by rw [tab_len]; exact line_lt (by omega), _, N17.push hS2 upd_same (Same.new hS2)⟩
    · rintro H17 ⟨rb, N17⟩
      have sall := (s1215.trans s16).trans N17.same
      have Rdue : Rows H17 D rb ah' aw' fun y x => backM r (h, n) ws (numF (QQ i) N) (tp + y) (lf + x) := Rows.of N17
      have F17 := F12.same sall
      obtain ⟨⟨dxf, lf0, rf0, ef, _⟩, _, bF⟩ := id F17
      tm_at "go"
      refine ⟨fnd, dxf, _, rfl, ef, ?_⟩
      tm_at "go"
      refine gMeE ef rfl ?_
      tm_at "go"
      refine ⟨fnd, ah', aw', _, rfl, F17, fun a18 ra18 H18 NL18 => ?_⟩
      have R18 := Rows.of NL18
      tm_at "go"
      refine ⟨a18, ra18, ah', aw', _, rfl, R18, ah.2.1, aw.2.1, bF, ?_⟩
      tm_at "go"
      refine ⟨D, rb, ah', aw', _, rfl, Rdue.same NL18.same, ah.2.1, aw.2.1, bF, ?_⟩
      tm_at "go"
      refine gIfF (by rw [decide_eq_true rfl]; rfl) ?_
      tm_at "go"
      have s1218 := sall.trans NL18.same
      refine ⟨td, L, ts, tq, qs, pls, rfl, lt.same s1218, (lof_stay lo fun b o e m => s1218 _ _ (st12 b o e m)), fun x hx => sub x (la x hx), ?_⟩
      tm_at "go"
      exact ⟨fun b o e m => s1218 _ _ (st12 b o e m), B12.ti.ext s1218, _, _, _, _, _, _, _, rfl⟩
  · rintro σ H6 ⟨st6, ti6, v9, v10, v11, v12, v13, v14, v15, rfl⟩
    tm_at "go"
    exact q H6 (fun b o e nb m => st6 b o (st5 b o e nb) m) ti6
end
end Kp
/-! the law -/
namespace Kp
open PySem PySem.Spec PyProof.Rows L2 LamX NdefX TL
def p_law (K : PySem.W.Frag) : Pm := fun vs H Q => ∃ (a : Addr) (ns : List Int), vs = [.ref a] ∧ SqL K H a (ns.map V.int) ∧ TI (askP K) qAns qLam H ∧ ∀ H', Q (.bl true) H'
theorem gIfAsg {d : Bool} {te : TE} {i : Nat} {n : L2.St → Hp → Prop} {r : VK} {b c : L2.St → Hp → Prop} {σ : L2.St} {H : Hp} (C : V → Hp → Prop) (h1 : d = true → ∀ R : VK, (∀ x H1, C x H1 → R x H1) → te σ H R) (h2 : d = false → ∃ x, σ[i]? = some (some x) ∧ C x H)
    (h : ∀ x H1, C x H1 → n (σ.set i (some x)) H1) : if d = true then tAsg te (gName i) ⟨n, r, b, c⟩ σ H else tNext ⟨n, r, b, c⟩ σ H := by
  cases d with
  | true => exact gTrue (h1 rfl _ h)
  | false =>
    refine gFalse ?_
    obtain ⟨x, e, hc⟩ := h2 rfl
    have e2 : σ.set i (some x) = σ := by
      obtain ⟨hi, hv⟩ := List.getElem?_eq_some_iff.mp e
      rw [← hv, List.set_getElem_self]
    have := h x H hc
    rw [e2] at this
    exact this
/-- all that stood but tables -/
abbrev XN (H H' : Hp) : Prop := ∀ b o, H b = some o → (∀ ps, o ≠ .tbl ps) → H' b = some o
theorem sq_stay {K : PySem.W.Frag} {H H' : Hp} {a : Addr} {xs : List V} (s : SqL K H a xs) (k : XN H H') : SqL K H' a xs := by
  rcases s with (e | ⟨o, e⟩) | e
  · exact .inl (.inl (k _ _ e (fun _ z => by cases z)))
  · exact .inl (.inr ⟨o, k _ _ e (fun _ z => by cases z)⟩)
  · exact .inr e
theorem rows_box {H H' : Hp} {bx D : Addr} {rb : Nat → Addr} {h w : Nat} {g : G2} (R : Rows H D rb h w g) (n1 : D ≠ bx) (n2 : ∀ y, y < h → rb y ≠ bx) (k : Kept (· = bx) H H') : Rows H' D rb h w g := ⟨k _ _ R.top n1, fun y hy => k _ _ (R.row y hy) (n2 y hy)⟩
theorem field_box {K : PySem.W.Frag} {H H' : Hp} {bx p : Addr} {nb h w : Nat} {g : G2} {N : Addr → Prop} (F : FieldAt K H p h w g) (Fn : FieldN K H p N) (hN : N bx) (B : BoxAt H bx nb) (k : Kept (· = bx) H H') : FieldAt K H' p h w g ∧ FieldN K H' p N := by
  obtain ⟨⟨dx, a, ra, e, R⟩, z, b⟩ := F
  obtain ⟨dx2, a2, ra2, m, e2, e3, e4⟩ := Fn
  have e0 := e2
  rw [e] at e2
  injection e2 with e2
  injection e2 with _ _ e2
  have ea : a = a2 := by
    unfold fF at e2
    injection e2 with e2
    injection e2 with _ e2
    injection e2
  subst ea
  have et := R.top
  rw [e3] at et
  injection et with et
  injection et with et
  have em := congrArg List.length et
  rw [tab_len, tab_len] at em
  subst em
  have er : ∀ y, y < m → ra y = ra2 y := fun y hy => by
    have h1 := tab_get (f := fun y => V.ref (ra2 y)) hy
    rw [et, tab_get hy] at h1
    injection h1 with h1
    injection h1
  have nt : a ≠ bx := box_ne B R.top fun _ => ⟨_, rfl⟩
  have nr : ∀ y, y < m → ra y ≠ bx := fun y hy z => e4 y hy (by rw [← er y hy, z]; exact hN)
  have ke := k _ _ e (B.ne e fun _ z => by cases z)
  exact ⟨⟨⟨dx, a, ra, ke, rows_box R nt nr k⟩, z, b⟩, ⟨dx2, a, ra2, m, k _ _ e0 (B.ne e0 fun _ z => by cases z), k _ _ e3 nt, e4⟩⟩
theorem mkFieldR {K : PySem.W.Frag} {H : Hp} {a x dx : Addr} {ra : Nat → Addr} {h w : Nat} {g : G2} {R : Hp → Prop} (Rw : Rows H a ra h w g) (z : Sz h w) (hb : Bd 999999999999999 h w g) (q : ∀ H2, Same H H2 → FieldAt K H2 x h w g → R H2) (h1 : H x = none) (h2 : H dx = none) (n : dx ≠ x) :
    p_Field_init K [.ref x, .ref a] (upd (upd H dx (.own x)) x (.ins (He.ga K "Field") dx [])) fun v H2 => v = .non ∧ R H2 := by
  have s2 : Same H (upd (upd H dx (.own x)) x (.ins (He.ga K "Field") dx [])) := (Same.new h2).trans (Same.new (by rw [upd_ne n.symm]; exact h1))
  exact ⟨x, dx, a, ra, h, w, g, rfl, upd_same, Rw.same s2, z, hb, fun H' s F => ⟨rfl, q H' (fun b o e => s b o (ne_of_none e h1) (s2 _ _ e)) F⟩⟩
theorem fieldn_stay {K : PySem.W.Frag} {H H' : Hp} {p : Addr} {N : Addr → Prop} (x : FieldN K H p N) (s : Same H H') : FieldN K H' p N := let ⟨dx, a, ra, m, e1, e2, e3⟩ := x; ⟨dx, a, ra, m, s _ _ e1, s _ _ e2, e3⟩
theorem ReadN.mono {K : PySem.W.Frag} {H : Hp} {p : Addr} {M N : Addr → Prop} (x : ReadN K H p N) (h : ∀ b, M b → N b) : ReadN K H p M := let ⟨c, cu, e, a1, a2, a3, a4⟩ := x; ⟨c, cu, e, a1, a2, fun z => a3 (h _ z), fun z => a4 (h _ z)⟩
theorem box_stay {H H' : Hp} {bx n : Nat} (b : BoxAt H bx n) (k : XN H H') : BoxAt H' bx n := let ⟨b0, b1, c, e, h⟩ := b; ⟨b0, b1, c, k _ _ e (fun _ z => by cases z), h⟩
theorem shp_sz {c : Nat × Nat} (s : Shp c) (h1 : 1 ≤ c.1) (h2 : 1 ≤ c.2) : Sz c.1 c.2 := by
  rcases s with ⟨a, b⟩ | rfl | rfl
  · exact ⟨h1, by omega, h2, by omega, Nat.le_trans (Nat.mul_le_mul a b) (by decide)⟩
  · exact ⟨h1, by decide, h2, by decide, by decide⟩
  · exact ⟨h1, by decide, h2, by decide, by decide⟩
theorem find_head {h w : Nat} {r : Rl} {ws : List L} {m : Nat} {body : List Nat} : Txt.find (T (headT h w r ws m ++ body)) ":" = ((preT h w r ws m ++ chkT h w r ws m).length : Int) := by
  have e0 : headT h w r ws m ++ body = (preT h w r ws m ++ chkT h w r ws m) ++ (58 :: body) := by
    unfold headT chkT
    simp only [List.append_assoc]
    rfl
  rw [e0]
  have fr : 58 ∉ preT h w r ws m ++ chkT h w r ws m := preT_free
  generalize preT h w r ws m ++ chkT h w r ws m = p at fr ⊢
  have hy : tl ":" ≠ [] := fun z => by cases z
  have at_m : PySem.StrLaws.At (T (p ++ 58 :: body)) ":" (T (p ++ 58 :: body)).length p.length := (at_iff hy _).mpr (by
    show pre [58] ((p ++ 58 :: body).drop p.length) = true
    rw [List.drop_left]
    rfl)
  unfold Txt.find
  rcases PySem.StrLaws.occ_head (T (p ++ 58 :: body)) ":" 1 (Nat.le_refl 1) with ⟨_, hn⟩ | ⟨i, rr, e, hi, hf⟩
  · exact absurd at_m (hn _)
  · rw [e]
    have h1 : ¬ i < p.length := fun z => by
      have q := (at_iff hy i).mp hi
      have q2 := free_of (s := 58) (S := []) (q := 58 :: body) fr i z
      rw [show pre (tl ":") ((tl (T (p ++ 58 :: body))).drop i) = pre [58] ((p ++ 58 :: body).drop i) from rfl, q2] at q
      cases q
    have h2 : ¬ p.length < i := fun z => hf _ z at_m
    show ((i : Nat) : Int) = _
    rw [show i = p.length by omega]
section
variable {P : Program} {w : World} {K : PySem.W.Frag} {mg : Str → Option Value} {base : Heap}
theorem ok_law (S : TX K mg) (TB : TabB base mg (askC K) (askP K)) : OkG P w K mg base 50 (He.ga K "law") (p_law K) := by
  refine okG (F_law S) sc_law (by tm_at "len") (fun _ _ _ _ _ _ us hl => match us, hl with | [_], _ => rfl) (fun cdv A outer s H vs Q hG hr h => ?_)
  obtain ⟨a, ns, rfl, sq, ti, q⟩ := h
  refine ⟨_, (pss_cons (ps_for PassesOwn.never rfl (pi_range1 rfl (fr_range S) (pa_cons (pe_callB (call_max2 rfl) rfl (fr_max S) bt_max (pa_cons pe_int (pa_cons (pe_callB (call_min2 rfl) rfl (fr_min S) bt_min (pa_cons (pe_callB (kLen (K := K) rfl) rfl (fr_len S) bt_len (pa_cons (pv 0) pa_nil)) (pa_cons pe_int pa_nil))) pa_nil))) pa_nil)) (pg_name (i := 1) sc_law.nd rfl (Or.inl rfl)) (pss_cons (ps_set (i := 2) sc_law.nd rfl (Or.inl rfl) (pe_f (ok_law_box S) (hr.mono (by decide)) rfl (glo_law_box S) (pa_cons (pe_f (ok_law_cell S) (hr.mono (by decide)) rfl (glo_law_cell S) (pa_cons (pv 0) (pa_cons (pv 1) pa_nil))) pa_nil)))
    (pss_cons (ps_set (i := 3) sc_law.nd rfl (Or.inl rfl) (pe_f (ok_law_take S) (hr.mono (by decide)) rfl (glo_law_take S) (pa_cons (pv 2) (pa_cons pe_int pa_nil))))
    (pss_cons (ps_set (i := 4) sc_law.nd rfl (Or.inl rfl) (pe_f (ok_law_shape S) (hr.mono (by decide)) rfl (glo_law_shape S) (pa_cons (pv 2) pa_nil)))
    (pss_cons (ps_set (i := 5) sc_law.nd rfl (Or.inl rfl) (pe_ix (kIxL (K := K) rfl) (pe_lst (pa_cons pe_str (pa_cons pe_str (pa_cons pe_str (pa_cons pe_str pa_nil))))) (pe_f (ok_law_take S) (hr.mono (by decide)) rfl (glo_law_take S) (pa_cons (pv 2) (pa_cons pe_int pa_nil))) (fun _ _ => rfl)))
    (pss_cons (ps_set (i := 6) sc_law.nd rfl (Or.inl rfl) (pe_mk (mkr_Plan S) (ok_Plan_init S) (hr.mono (by decide)) rfl (glo_Plan S) (pa_cons (pe_ix (kIxT (K := K) rfl) (pv 4) pe_int (fun _ _ => rfl)) (pa_cons (pe_ix (kIxT (K := K) rfl) (pv 4) pe_int (fun _ _ => rfl)) (pa_cons (pv 5) (pa_cons (pe_f (ok_law_way S) (hr.mono (by decide)) rfl (glo_law_way S) (pa_cons (pv 2) (pa_cons (pv 4) pa_nil))) pa_nil))))))
    (pss_cons (ps_set (i := 7) sc_law.nd rfl (Or.inl rfl) (pe_f (ok_law_rows S) (hr.mono (by decide)) rfl (glo_law_rows S) (pa_cons (pv 2) (pa_cons (pv 4) pa_nil))))
    (pss_cons (ps_set (i := 8) sc_law.nd rfl (Or.inl rfl) (pe_f (ok_halvedN S) (hr.mono (by decide)) rfl (glo_halved S) (pa_cons (pv 6) (pa_cons (pe_mk (mkr_Field S) (ok_Field_init S) (hr.mono (by decide)) rfl (glo_Field S) (pa_cons (pe_lc (own := [("_law_row", 16)]) (g := gName 16) (tt := tYes) rfl sc_law.nd (kList (K := K) rfl (pv 7)) (blkOk_by (own := [("_law_row", 16)]) (N := ["_law_script", "_law_k", "_law_box_here", "_law_cut", "_law_size", "_law_word", "_law_plan", "_law_rows_here", "_law_written", "_law_text", "_law_head", "_law_reading", "_law_full", "_law_drawn", "_law_place", "_law_some", "_law_row"]) (sc := defScope s_law) (by decide +kernel)) (fun _ _ _ _ _ => (pg_name (i := 16) sc_law.nd rfl (Or.inl rfl))) (fun _ _ _ _ _ => pts_nil) (fun _ _ _ _ _ => (pe_callTy (kListOf (K := K) rfl) rfl (fr_list S) bt_list (pa_cons (pv 16) pa_nil)))) pa_nil)) pa_nil))))
    (pss_cons (ps_set (i := 9) sc_law.nd rfl (Or.inl rfl) (pe_f (ok_signs S) (hr.mono (by decide)) rfl (glo_signs S) (pa_cons (pv 6) (pa_cons (pv 8) pa_nil))))
    (pss_cons (ps_set (i := 10) sc_law.nd rfl (Or.inl rfl) (pe_op op_add (pe_m1 PySem.F.slot_str_find PySem.F.type_str_find mt_find (pv 9) pe_str) pe_int))
    (pss_cons (ps_if (pt_cmpR op_gt (pv 3) pe_int (nomark _)) (pss_one (ps_set (i := 9) sc_law.nd rfl (Or.inl rfl) (pe_slice sl_str (pv 9) po_none (po_some (pe_op op_add (pv 10) (pe_f (ok_law_take S) (hr.mono (by decide)) rfl (glo_law_take S) (pa_cons (pv 2) (pa_cons (pe_op op_add (pe_op op_sub (pe_callB (kLen (K := K) rfl) rfl (fr_len S) bt_len (pa_cons (pv 9) pa_nil)) (pv 10)) pe_int) pa_nil)))))))) pss_nil)
    (pss_cons (ps_set (i := 11) sc_law.nd rfl (Or.inl rfl) (pe_f (ok_read_signs S) (hr.mono (by decide)) rfl (glo_read_signs S) (pa_cons (pv 9) pa_nil)))
    (pss_cons (ps_set (i := 12) sc_law.nd rfl (Or.inl rfl) (pe_f (ok_read_signs S) (hr.mono (by decide)) rfl (glo_read_signs S) (pa_cons (pe_f (ok_signs S) (hr.mono (by decide)) rfl (glo_signs S) (pa_cons (pv 6) (pa_cons (pv 8) pa_nil))) pa_nil)))
    (pss_cons (ps_set (i := 13) sc_law.nd rfl (Or.inl rfl) (pe_tup (pa_cons (pe_f (ok_law_take S) (hr.mono (by decide)) rfl (glo_law_take S) (pa_cons (pv 2) (pa_cons (pe_ix (kIxT (K := K) rfl) (pv 4) pe_int (fun _ _ => rfl)) pa_nil))) (pa_cons (pe_f (ok_law_take S) (hr.mono (by decide)) rfl (glo_law_take S) (pa_cons (pv 2) (pa_cons (pe_ix (kIxT (K := K) rfl) (pv 4) pe_int (fun _ _ => rfl)) pa_nil))) pa_nil))))
    (pss_cons (ps_for PassesOwn.never rfl (kList (K := K) rfl (pe_lst (pa_cons (pv 13) (pa_cons (pe_tup (pa_cons (pe_op op_sub (pe_ix (kIxT (K := K) rfl) (pv 4) pe_int (fun _ _ => rfl)) pe_int) (pa_cons (pe_op op_sub (pe_ix (kIxT (K := K) rfl) (pv 4) pe_int (fun _ _ => rfl)) pe_int) pa_nil))) (pa_cons (pe_tup (pa_cons pe_int (pa_cons pe_int pa_nil))) pa_nil))))) (pg_name (i := 14) sc_law.nd rfl (Or.inl rfl)) (pss_cons (ps_if (pt_not (pt_val (pe_f (ok_law_numbers_right S TB) (hr.mono (by decide)) rfl (glo_law_numbers_right S) (pa_cons (pv 6) (pa_cons (pv 7) (pa_cons (pv 8) (pa_cons (pv 14) pa_nil))))))) (pss_one (ps_ret pe_bl)) pss_nil)
    (pss_one (ps_for PassesOwn.never rfl (kList (K := K) rfl (pe_lst (pa_cons (pv 11) (pa_cons (pv 12) (pa_cons (pv 11) pa_nil))))) (pg_name (i := 15) sc_law.nd rfl (Or.inl rfl)) (pss_one (ps_if (pt_not (pt_val (pe_f (ok_law_values_right S TB) (hr.mono (by decide)) rfl (glo_law_values_right S) (pa_cons (pv 6) (pa_cons (pv 7) (pa_cons (pv 15) (pa_cons (pv 14) pa_nil))))))) (pss_one (ps_ret pe_bl)) pss_nil))))))
    (pss_one (ps_if (pt_not (pt_val (pe_fG (ok_law_areas_right S TB) hG (hr.mono (by decide)) rfl (glo_law_areas_right S) (pa_cons (pv 2) (pa_cons (pv 6) (pa_cons (pe_lst (pa_cons (pv 11) (pa_cons (pv 12) (pa_cons (pv 11) pa_nil)))) (pa_cons (pv 4) pa_nil))))))) (pss_one (ps_ret pe_bl)) pss_nil)))))))))))))))))
    (pss_one (ps_ret pe_bl))), ?_⟩
  tm_at "go"
  refine ⟨_, ns.length, rfl, .inl ⟨_, sq, by rw [List.length_map]⟩, ?_⟩
  tm_at "go"
  refine ⟨_, _, rfl, ?_⟩
  tm_at "go"
  refine ⟨_, _, rfl, ?_⟩
  obtain ⟨mk, ek, hk⟩ : ∃ k : Nat, (if (4 : Int) < ((ns.length : Nat) : Int) then (4 : Int) else ((ns.length : Nat) : Int)) = (k : Int) ∧ k ≤ 4 := by
    split
    · exact ⟨4, rfl, by omega⟩
    · exact ⟨ns.length, rfl, by omega⟩
  rw [ek]
  obtain ⟨m, em, hm⟩ : ∃ m : Nat, (if ((mk : Nat) : Int) > 2 then ((mk : Nat) : Int) else 2) = (m : Int) ∧ m ≤ 4 := by
    split
    · exact ⟨mk, rfl, hk⟩
    · exact ⟨2, rfl, by omega⟩
  rw [em]
  refine gR1 (by omega) ?_
  rw [Int.toNat_natCast]
  refine forIt (wRange (m := m)) (fun i σ H' => SqL K H' a (ns.map V.int) ∧ TI (askP K) qAns qLam H' ∧ ∃ v1 v2 v3 v4 v5 v6 v7 v8 v9 v10 v11 v12 v13 v14 v15 v16 : Option V, σ = [some (.ref a), v1, v2, v3, v4, v5, v6, v7, v8, v9, v10, v11, v12, v13, v14, v15, v16])
    ⟨sq, ti, none, none, none, none, none, none, none, none, none, none, none, none, none, none, none, none, rfl⟩ (fun _ _ _ _ _ => trivial) ?_ ?_
  · rintro i x σ H0 H1 hi ⟨sq0, ti0, v1, v2, v3, v4, v5, v6, v7, v8, v9, v10, v11, v12, v13, v14, v15, v16, rfl⟩ ⟨rfl, rfl⟩
    tm_at "go"
    refine ⟨a, ns, i, rfl, sq0, by omega, fun z => ?_⟩
    tm_at "go"
    refine ⟨z, rfl, fun bx H2 nbx s2 B2 => ?_⟩
    tm_at "go"
    refine ⟨bx, 0, 4, rfl, B2, by omega, by decide, by decide, fun cut H3 hcut k3 B3 => ?_⟩
    tm_at "go"
    refine ⟨bx, 1, rfl, B3, by omega, fun t c H4 shp c1 c2 k4 B4 nt et => ?_⟩
    tm_at "go"
    refine ⟨szL rfl, fun W hW => ?_⟩
    have eW := upd_same (H := H4) (a := W) (o := .lst [.str "sum", .str "half", .str "guess", .str "lean"])
    have sW := Same.new (H := H4) (p := W) (o := .lst [.str "sum", .str "half", .str "guess", .str "lean"]) hW
    have Wbx := B4.nn hW
    generalize upd H4 W _ = H5 at eW sW ⊢
    tm_at "go"
    refine ⟨bx, 4, 4, rfl, B4.same sW, by omega, by decide, by decide, fun wd H6 hwd k6 B6 => ?_⟩
    have pick : ∃ r : Rl, atI [V.str "sum", V.str "half", V.str "guess", V.str "lean"] ((wd : Nat) : Int) = some (.str r.word) := by
      match wd, hwd with
      | 0, _ => exact ⟨.sum, rfl⟩
      | 1, _ => exact ⟨.half, rfl⟩
      | 2, _ => exact ⟨.guess, rfl⟩
      | 3, _ => exact ⟨.lean, rfl⟩
    obtain ⟨r, er⟩ := pick
    refine gIxL (SqL.of (k6 _ _ eW Wbx)) er ?_
    tm_at "go"
    have zc := shp_sz shp c1 c2
    have zh := zc.h2
    have zw := zc.w2
    have nT : ∀ {b : Addr} {c : Nat × Nat} {H : Hp} {n : Nat}, BoxAt H bx n → H b = some (cT c) → b ≠ bx := fun B e => B.ne e fun _ z => by unfold cT at z; cases z
    have et5 := sW _ _ et
    have et6 := k6 _ _ et5 (nT (B4.same sW) et5)
    refine gIxT (SqT.of et6) (i := 0) rfl ?_
    tm_at "go"
    refine gIxT (SqT.of et6) (i := 1) rfl ?_
    tm_at "go"
    refine ⟨bx, t, 5, c, rfl, B6, by omega, et6, zc, fun ws H7 ok wl k7 B7 => ?_⟩
    have et7 := k7 _ _ et6 (nT B6 et6)
    intro x dx hx hdx nx
    have s7x : Same H7 (upd (upd H7 dx (.own x)) x (.ins (He.ga K "Plan") dx [])) := (Same.new hdx).trans (Same.new (by rw [upd_ne nx.symm]; exact hx))
    refine ⟨x, dx, c.1, c.2, r, ws, rfl, upd_same, zc, ok, fun H8 kp8 Pl8 => ⟨rfl, ?_⟩⟩
    have s8 : Same H7 H8 := fun b o e => kp8 b o (ne_of_none e hx) (s7x _ _ e)
    have B8 := B7.same s8
    have et8 := s8 _ _ et7
    tm_at "go"
    refine ⟨bx, t, 16, c, rfl, B8, by omega, et8, zc, fun D rb g H9 k9 B9 nD R9 nrb bd => ?_⟩
    have Pl9 := plan_box Pl8 B8 k9
    have et9 := k9 _ _ et8 (nT B8 et8)
    have Dbx := B8.nn nD
    have rbx : ∀ y, y < c.1 → rb y ≠ bx := fun y hy => B8.nn (nrb y hy)
    tm_at "go"
    refine gL1 (SqL.of R9.top) ?_
    intro E hE
    refine lcIt (wTab (m := c.1) (f := fun y => .ref (rb y))) (fun i H' => ∃ re, NewL H9 H' E i re fun y => .lst (irow c.2 (g y))) ⟨rb, NewL.nil hE⟩ (fun i H' _ ⟨re, z⟩ => SqL.of (z.same _ _ R9.top)) ?_ ?_
    · rintro y x H10 H11 hy ⟨re, N⟩ ⟨rfl, rfl⟩
      tm_at "go"
      refine ⟨rfl, ?_⟩
      tm_at "go"
      refine ⟨rb y, _, rfl, .inl (SqL.of (N.same _ _ (R9.row y hy))), fun l hl => ?_⟩
      exact ⟨_, get_new hl N.top, by rw [tab_len]; exact line_lt (by have := zc.h2; omega), _, N.push hl upd_same (Same.new hl)⟩
    rintro H10 ⟨re, N10⟩
    have R10e := Rows.of N10
    have s10 := N10.same
    tm_at "go"
    refine fun fl fdx hfx hfdx nfx => mkFieldR R10e zc (fun y x hy hx => by have := bd y x hy hx; omega) (fun H11 s11 F11 => ?_) hfx hfdx nfx
    have s9_11 := s10.trans s11
    have bN : BdS 656100000 (c.1, c.2) (halvedM r (c.1, c.2) ws g) := halved_in ok shp bd
    refine ⟨x, fl, c.1, c.2, r, ws, g, rfl, Pl9.same s9_11, F11, bd, bN.mono (by decide), fun wr H12 s12 F12 Fn12 => ?_⟩
    have s9_12 := s9_11.trans s12
    have bN9 : Bd 1000000000 c.1 c.2 (halvedM r (c.1, c.2) ws g) := bN.mono (by decide)
    generalize hN : halvedM r (c.1, c.2) ws g = N at *
    tm_at "go"
    have Pl12 := Pl9.same s9_12
    refine ⟨x, wr, c.1, c.2, r, ws, N, rfl, Pl12, F12, bN9, fun m1 H13 s13 m30 hm1 => ?_⟩
    have bx11 : H11 bx ≠ none := by
      obtain ⟨b0, b1, cc, e, _⟩ := B9.same s9_11
      rw [e]
      exact fun z => by cases z
    have s9_13 := s9_12.trans s13
    have B13 := B9.same s9_13
    tm_at "go"
    refine gM1 ?_
    tm_at "go"
    refine ⟨⟨_, rfl⟩, ?_⟩
    tm_at "go"
    refine ⟨_, _, rfl, rfl, ?_⟩
    rw [find_head]
    tm_at "go"
    have wl : ws.length ≤ 126 := Pl9.wlen
    have pl := preT_le (r := r) zc.h2 zc.w2 m30 wl
    have cl : (chkT c.1 c.2 r ws m1).length = 2 := rfl
    have hdl : (headT c.1 c.2 r ws m1).length = (preT c.1 c.2 r ws m1 ++ chkT c.1 c.2 r ws m1).length + 1 := by
      unfold headT chkT
      simp only [List.length_append, List.length_cons, List.length_nil]
    have hd300 : (headT c.1 c.2 r ws m1).length ≤ 300 := by rw [hdl, List.length_append]; omega
    rw [show (((preT c.1 c.2 r ws m1 ++ chkT c.1 c.2 r ws m1).length : Nat) : Int) + 1 = (((headT c.1 c.2 r ws m1).length : Nat) : Int) by rw [hdl]; rfl]
    have lenO : ((orderM (c.1, c.2) ws).map fun q => N q.1 q.2).length = c.1 * c.2 := by rw [List.length_map]; exact order_len
    have bl := bodyT_len (m := m1) (ns := (orderM (c.1, c.2) ws).map fun q => N q.1 q.2) m1
    have hw9 := zc.hw
    have b1 : m1 * (2 * ((orderM (c.1, c.2) ws).map fun q => N q.1 q.2).length + 3) ≤ 30 * 1027 := Nat.mul_le_mul (by omega) (by omega)
    have bl2 : (bodyT m1 ((orderM (c.1, c.2) ws).map fun q => N q.1 q.2) m1).length ≤ 31000 := by omega
    generalize hbody : bodyT m1 ((orderM (c.1, c.2) ws).map fun q => N q.1 q.2) m1 = body at *
    generalize hhd : headT c.1 c.2 r ws m1 = hd at *
    refine gIfAsg (fun x H1 => ∃ k, x = .str (T (hd ++ body.take k)) ∧ Kept (· = bx) H13 H1 ∧ BoxAt H1 bx 217) (fun _ R hR => ?_) (fun _ => ⟨_, rfl, body.length, by rw [List.take_length], Kept.refl _ _, B13.mono (by omega)⟩) ?_
    · tm_at "go"
      refine ⟨_, (hd ++ body).length, rfl, ⟨by rw [T_len, List.length_append]; exact line_le (by omega), by rw [T_len]⟩, ?_⟩
      tm_at "go"
      rw [show (((hd ++ body).length : Nat) : Int) - ((hd.length : Nat) : Int) + 1 = ((body.length + 1 : Nat) : Int) by rw [List.length_append]; omega]
      refine ⟨bx, 216, body.length + 1, rfl, B13, by omega, by omega, by omega, fun d H14 hd14 k14 B14 => ?_⟩
      tm_at "go"
      refine ⟨_, rfl, by rw [T_len, List.length_append]; exact line_le (by omega), ?_⟩
      rw [show ((hd.length : Nat) : Int) + ((d : Nat) : Int) = ((hd.length + d : Nat) : Int) from rfl, cutS_T (a := 0) (b := hd.length + d) rfl (sIx_nat (by rw [List.length_append]; omega)), List.drop_zero, Nat.sub_zero]
      refine hR _ _ ⟨d, ?_, k14, B14⟩
      rw [List.take_append, List.take_of_length_le (by omega), Nat.add_sub_cancel_left]
    rintro xt H14 ⟨kc, rfl, k14, B14⟩
    have et9' := et9
    have Pl14 := plan_box (Pl12.same s13) B13 k14
    obtain ⟨F14, Fn14⟩ := field_box (F12.same s13) (fieldn_stay Fn12 s13) bx11 B13 k14
    have R14 := rows_box (R9.same s9_13) Dbx rbx k14
    have et14 := k14 _ _ (s9_13 _ _ et9) (nT B13 (s9_13 _ _ et9))
    rw [← hhd, ← hbody]
    tm_at "go"
    refine ⟨c.1, c.2, r, ws, m1, kc, N, rfl, zc, ok, wl, m30, hm1, fun p1 Q1 H15 s15 RQ15 RN15 => ?_⟩
    tm_at "go"
    refine ⟨x, wr, c.1, c.2, r, ws, N, rfl, Pl14.same s15, F14.same s15, bN9, fun m2 H16 s16 m230 hm2 => ?_⟩
    have bl3 : (bodyT m2 ((orderM (c.1, c.2) ws).map fun q => N q.1 q.2) m2) = (bodyT m2 ((orderM (c.1, c.2) ws).map fun q => N q.1 q.2) m2).take (bodyT m2 ((orderM (c.1, c.2) ws).map fun q => N q.1 q.2) m2).length := (List.take_length).symm
    rw [bl3]
    tm_at "go"
    refine ⟨c.1, c.2, r, ws, m2, _, N, rfl, zc, ok, wl, m230, hm2, fun p2 Q2 H17 s17 RQ17 RN17 => ?_⟩
    have s14_17 := (s15.trans s16).trans s17
    have s15_17 := s16.trans s17
    have B17 := B14.same s14_17
    tm_at "go"
    have et17 := s14_17 _ _ et14
    refine gIxT (SqT.of et17) (i := 0) rfl ?_
    tm_at "go"
    refine ⟨bx, 217, c.1, rfl, B17, by omega, by omega, by omega, fun y0 H18 hy0 k18 B18 => ?_⟩
    have et18 := k18 _ _ et17 (nT B17 et17)
    tm_at "go"
    refine gIxT (SqT.of et18) (i := 1) rfl ?_
    tm_at "go"
    refine ⟨bx, 218, c.2, rfl, B18, by omega, by omega, by omega, fun x0 H19 hx0 k19 B19 => ?_⟩
    have et19 := k19 _ _ et18 (nT B18 et18)
    have k17_19 := k18.trans k19
    have bx14 : H14 bx ≠ none := by
      obtain ⟨b0, b1, cc, e, _⟩ := B14
      rw [e]
      exact fun z => by cases z
    have Pl19 := plan_box (Pl14.same s14_17) B17 k17_19
    obtain ⟨F19, Fn19⟩ := field_box (F14.same s14_17) (fieldn_stay Fn14 s14_17) bx11 B17 k17_19
    have R19 := rows_box (R14.same s14_17) Dbx rbx k17_19
    have RN15' := readn_stay RN15 fun C dx fs e => s15_17 _ _ e
    have RQ1 := readq_box (RQ15.keep s15_17) RN15' bx14 B17 k17_19
    have bx16 : H16 bx ≠ none := by
      obtain ⟨b0, b1, cc, e, _⟩ := B14.same (s15.trans s16)
      rw [e]
      exact fun z => by cases z
    have RQ2 := readq_box RQ17 RN17 bx16 B17 k17_19
    have RN1 : ReadN K H19 p1 (· = bx) := (readn_stay RN15' fun C dx fs e => k17_19 _ _ e (B17.ne e fun _ z => by cases z)).mono fun b hb => by rw [hb]; exact bx14
    have RN2 : ReadN K H19 p2 (· = bx) := (readn_stay RN17 fun C dx fs e => k17_19 _ _ e (B17.ne e fun _ z => by cases z)).mono fun b hb => by rw [hb]; exact bx16
    have KK : Kept (· = bx) H2 H19 := ((((((((((k3.trans k4).trans (Kept.of sW)).trans k6).trans k7).trans (Kept.of s8)).trans k9).trans (Kept.of s9_13)).trans k14).trans (Kept.of s14_17)).trans k17_19)
    have ti19 := ti_box (ti0.ext s2) B2 KK
    have x0_19 : XN H1 H19 := fun b o e _ => KK b o (s2 _ _ e) (ne_of_none e nbx)
    tm_at "go"
    refine ⟨szL rfl, fun q1 hq1 => ?_⟩
    generalize hg20 : upd _ _ _ = H20
    obtain ⟨s20, e20⟩ := newF hg20 hq1
    tm_at "go"
    have et20 := s20 _ _ et19
    refine gIxT (SqT.of et20) (i := 0) rfl ?_
    tm_at "go"
    refine gIxT (SqT.of et20) (i := 1) rfl ?_
    tm_at "go"
    refine ⟨szL rfl, fun q2 hq2 => ?_⟩
    generalize hg21 : upd _ _ _ = H21
    obtain ⟨s21, e21⟩ := newF hg21 hq2
    tm_at "go"
    refine ⟨szL rfl, fun q3 hq3 => ?_⟩
    generalize hg22 : upd _ _ _ = H22
    obtain ⟨s22, e22⟩ := newF hg22 hq3
    tm_at "go"
    refine ⟨szL rfl, fun QL hQL => ?_⟩
    generalize hg23 : upd _ _ _ = H23
    obtain ⟨s23, e23⟩ := newF hg23 hQL
    have s19_23 := ((s20.trans s21).trans s22).trans s23
    have ePl : ∃ pq : Nat → Nat × Nat, (∀ j, j < 3 → (pq j).1 < c.1 ∧ (pq j).2 < c.2) ∧ ∃ qa : Nat → Addr, (∀ j, j < 3 → H23 (qa j) = some (cT (pq j))) ∧ H23 QL = some (.lst (tab 3 fun j => .ref (qa j))) := by
      refine ⟨fun j => if j = 0 then (y0, x0) else if j = 1 then (c.1 - 1, c.2 - 1) else (0, 0), fun j hj => ?_, fun j => if j = 0 then q1 else if j = 1 then q2 else q3, fun j hj => ?_, e23⟩
      · match j, hj with
        | 0, _ => exact ⟨hy0, hx0⟩
        | 1, _ => exact ⟨by show c.1 - 1 < c.1; omega, by show c.2 - 1 < c.2; omega⟩
        | 2, _ => exact ⟨c1, c2⟩
      · match j, hj with
        | 0, _ => exact s23 _ _ (s22 _ _ (s21 _ _ e20))
        | 1, _ =>
          have e := s23 _ _ (s22 _ _ e21)
          show H23 q2 = some (.tup [.int ((c.1 - 1 : Nat) : Int), .int ((c.2 - 1 : Nat) : Int)])
          rw [e, show ((c.1 - 1 : Nat) : Int) = (c.1 : Int) - 1 by omega, show ((c.2 - 1 : Nat) : Int) = (c.2 : Int) - 1 by omega]
        | 2, _ => exact s23 _ _ e22
    obtain ⟨pq, hpq, qa, eqa, eQL⟩ := ePl
    clear e23
    refine gL1 (SqL.of eQL) ?_
    have Pl23 := Pl19.same s19_23
    have F23 : FieldAt K H23 wr c.1 c.2 (halvedM r (c.1, c.2) ws g) := by rw [hN]; exact F19.same s19_23
    have R23 := R19.same s19_23
    have B23 := B19.same s19_23
    have et23 := s19_23 _ _ et19
    have ti23 := ti19.ext s19_23
    have RR : ∃ (rdf : Nat → Addr) (QQ : Nat → Nat → Nat → Nat), (∀ j, j < 3 → ReadQ K H23 (rdf j) c.1 c.2 r ws (halvedM r (c.1, c.2) ws g) (QQ j) ∧ ReadN K H23 (rdf j) (· = bx)) ∧ [V.ref p1, V.ref p2, V.ref p1] = tab 3 fun j => V.ref (rdf j) := by
      refine ⟨fun j => if j = 1 then p2 else p1, fun j => if j = 1 then Q2 else Q1, fun j hj => ?_, rfl⟩
      rw [hN]
      match j, hj with
      | 0, _ => exact ⟨RQ1.keep s19_23, readn_stay RN1 fun C dx fs e => s19_23 _ _ e⟩
      | 1, _ => exact ⟨RQ2.keep s19_23, readn_stay RN2 fun C dx fs e => s19_23 _ _ e⟩
      | 2, _ => exact ⟨RQ1.keep s19_23, readn_stay RN1 fun C dx fs e => s19_23 _ _ e⟩
    obtain ⟨rdf, QQ, hRR, eRR⟩ := RR
    have x0_23 : XN H1 H23 := fun b o e m => s19_23 _ _ (x0_19 b o e m)
    refine forIt (wTab (m := 3) (f := fun j => .ref (qa j))) (fun j σ H' => XN H23 H' ∧ TI (askP K) qAns qLam H' ∧ ∃ w9 w10 w13 w14 w15 w16 : Option V, σ = [some (.ref a), some (.int (i : Nat)), some (.ref bx), some (.int (cut : Nat)), some (.ref t), some (.str r.word), some (.ref x), some (.ref D), some (.ref wr), w9, w10, some (.ref p1), some (.ref p2), w13, w14, w15, w16])
      ⟨fun b o e _ => e, ti23, _, _, _, _, _, _, rfl⟩ (fun j σ H' _ z => SqL.of (z.1 _ _ eQL (fun _ z => by cases z))) ?_ ?_
    · rintro j y σ H24 H25 hj ⟨x24, ti24, w9, w10, w13, w14, w15, w16, rfl⟩ ⟨rfl, rfl⟩
      have etj := eqa j hj
      have hpj := hpq j hj
      tm_at "go"
      refine ⟨x, D, wr, qa j, rb, c.1, c.2, r, ws, g, pq j, rfl, ti24, plan_stay' Pl23 x24, rows_stay' R23 x24, field_stay' F23 x24, x24 _ _ etj (fun _ z => by unfold cT at z; cases z), hpj, shp, bd, fun H26 e26 t26 => ?_⟩
      have x26 : XN H23 H26 := fun b o e m => e26 b o (x24 b o e m) m
      tm_at "go"
      refine ⟨szL rfl, fun L3 hL3 => ?_⟩
      generalize hg27 : upd _ _ _ = H27
      obtain ⟨s27, e27⟩ := newF hg27 hL3
      rw [eRR] at e27
      have x27 : XN H23 H27 := fun b o e m => s27 _ _ (x26 b o e m)
      refine gL1 (SqL.of e27) ?_
      refine forIt (wTab (m := 3) (f := fun j => .ref (rdf j))) (fun j' σ H' => XN H27 H' ∧ TI (askP K) qAns qLam H' ∧ ∃ w15 w16 : Option V, σ = [some (.ref a), some (.int (i : Nat)), some (.ref bx), some (.int (cut : Nat)), some (.ref t), some (.str r.word), some (.ref x), some (.ref D), some (.ref wr), w9, w10, some (.ref p1), some (.ref p2), w13, some (.ref (qa j)), w15, w16])
        ⟨fun b o e _ => e, t26.ext s27, _, _, rfl⟩ (fun j σ H' _ z => SqL.of (z.1 _ _ e27 (fun _ z => by cases z))) ?_ ?_
      · rintro j' y' σ H28 H29 hj' ⟨x28, ti28, u15, u16, rfl⟩ ⟨rfl, rfl⟩
        have xx : XN H23 H29 := fun b o e m => x28 b o (x27 b o e m) m
        tm_at "go"
        refine ⟨x, D, rdf j', qa j, rb, c.1, c.2, r, ws, g, QQ j', pq j, rfl, ti28, plan_stay' Pl23 xx, rows_stay' R23 xx, readq_stay' (hRR j' hj').1 xx, xx _ _ etj (fun _ z => by unfold cT at z; cases z), hpj, shp, bd, fun H30 e30 t30 => ?_⟩
        tm_at "go"
        exact ⟨fun b o e m => e30 b o (x28 b o e m) m, t30, _, _, rfl⟩
      · rintro σ H28 ⟨x28, ti28, u15, u16, rfl⟩
        exact ⟨fun b o e m => x28 b o (x27 b o e m) m, ti28, _, _, _, _, _, _, rfl⟩
    · rintro σ H24 ⟨x24, ti24, w9, w10, w13, w14, w15, w16, rfl⟩
      tm_at "go"
      refine ⟨szL rfl, fun L4 hL4 => ?_⟩
      generalize hg25 : upd _ _ _ = H25
      obtain ⟨s25, e25⟩ := newF hg25 hL4
      rw [eRR] at e25
      have x25 : XN H23 H25 := fun b o e m => s25 _ _ (x24 b o e m)
      tm_at "go"
      refine ⟨bx, x, L4, t, rdf, 219, c.1, c.2, r, ws, g, QQ, rfl, box_stay B23 x25, by omega, ti24.ext s25, plan_stay' Pl23 x25, e25, fun j hj => ⟨readq_stay' (hRR j hj).1 x25, readn_stay (hRR j hj).2 fun C dx fs e => x25 _ _ e (fun _ z => by cases z)⟩, x25 _ _ et23 (fun _ z => by unfold cT at z; cases z), shp, bd, fun H26 e26 t26 => ?_⟩
      tm_at "go"
      exact ⟨sq_stay sq0 fun b o e m => e26 b o (x25 b o (x0_23 b o e m) m) (ne_of_none e nbx) m, t26, _, _, _, _, _, _, _, _, _, _, _, _, _, _, _, _, rfl⟩
  · rintro σ H0 ⟨sq0, ti0, v1, v2, v3, v4, v5, v6, v7, v8, v9, v10, v11, v12, v13, v14, v15, v16, rfl⟩
    tm_at "go"
    exact q H0
end
end Kp
/-! the end of the row: the law called by no one else, one code object's table beside the script -/
namespace Kp
open PySem PySem.Spec PyProof.Rows L2 LamX NdefX
/-- what is tracked at the call: the empty table, the script if the written part does not hold it -/
def startH (a T0 : Addr) (sc : Option HO) : Hp := fun b => if b = T0 then some (.tbl #[]) else if b = a then sc else none
section
variable {a T0 b : Addr} {sc : Option HO}
theorem startH_T : startH a T0 sc T0 = some (.tbl #[]) := if_pos rfl
theorem startH_a (n : a ≠ T0) : startH a T0 sc a = sc := (if_neg n).trans (if_pos rfl)
theorem startH_o (n1 : b ≠ T0) (n2 : b ≠ a) : startH a T0 sc b = none := (if_neg n1).trans (if_neg n2)
theorem startH_some (e : startH a T0 sc b ≠ none) : b = T0 ∨ b = a := by
  by_cases h1 : b = T0
  · exact .inl h1
  · by_cases h2 : b = a
    · exact .inr h2
    · exact absurd (startH_o h1 h2) e
end
section
variable {P : Program} {w : World} {K : PySem.W.Frag} {mg mb : Str → Option Value} {k : Nat} {fa a c T0 : Addr} {p : Pm} {s1 : Shared} {vs : List Value} {ns : List Int}
theorem law_end (KX : K.In s1.heap) (gN : s1.heap.Ns mainGlobals mg) (bN : s1.heap.Ns builtinsNs mb) (bE : ∀ x : Str, x ≠ "__name__" → mb x = bootBuiltins x) (lim : s1.heap.NoLimit) (g0 : s1.gens = #[])
    (eT : s1.heap.get? T0 = some { cls := .none, data := .fields #[] }) (nT : K.lookup T0 = none) (C : PySem.W.CodeHd s1.heap c T0)
    (bm : ∃ (bm : Addr) (ob : Obj), mg "__builtins__" = some (.ref bm) ∧ bm ≠ builtinsNs ∧ s1.heap.get? bm = some ob ∧ ob.cls = .type "module" ∧ ob.dict = some builtinsNs ∧ ob.data = .plain)
    (ea : s1.heap.get? a = some { cls := .type "list", data := .seq vs.toArray }) (hi : IntsAre vs ns) (hl : ns.length ≤ sizeLine) (hr : Room k callerA)
    (F : ∀ base : Heap, K.In base → base.Ns mainGlobals mg → TabB base mg c T0 → OkG P w K mg base k fa p) (hp : ∀ H : Hp, H T0 = some (.tbl #[]) → SqL K H a (ns.map V.int) → p [.ref a] H fun v _ => v = .bl true) :
    codeAny (model P w) callerA (.call (.ref fa) ⟨[.ref a], []⟩) (fun r s2 => r = .ok (.ret (.bool true)) ∧ OldK s1.heap s2.heap ∧ s2.os = s1.os ∧ AllBare s2.gens) s1 := by
  have rv := vals_ints hi
  have aT : a ≠ T0 := fun z => by
    have e := ea
    rw [z, eT] at e
    cases e
  have main : ∀ sc : Option HO, (∀ u, sc = some u → u = .frz { cls := .type "list", data := .seq vs.toArray } (.lst (ns.map V.int)) ∧ K.lookup a = none) → SqL K (startH a T0 sc) a (ns.map V.int) →
      codeAny (model P w) callerA (.call (.ref fa) ⟨[.ref a], []⟩) (fun r s2 => r = .ok (.ret (.bool true)) ∧ OldK s1.heap s2.heap ∧ s2.os = s1.os ∧ AllBare s2.gens) s1 := by
    intro sc hsc sq
    have hok : HOk P w (startH a T0 sc) s1.heap := fun b u e => by
      rcases startH_some (a := a) (T0 := T0) (sc := sc) (b := b) (by rw [e]; exact fun z => by cases z) with rfl | rfl
      · rw [startH_T] at e
        cases e
        exact eT
      · rw [startH_a aT] at e
        obtain ⟨rfl, _⟩ := hsc u e
        exact ⟨ea, by rw [List.length_map]; exact hl, vs, _, rv, ea⟩
    -- what is neither the table nor the script is in the callee's base
    have stay : ∀ {b : Addr} {o : Obj}, s1.heap.get? b = some o → o.data ≠ .seq vs.toArray → o.data ≠ .fields #[] → (hidT s1.heap (startH a T0 sc)).get? b = some o := fun {b o} e h1 h2 => by
      refine hidT_get e ?_
      refine startH_o (fun z => ?_) fun z => ?_
      · rw [z, eT] at e
        cases e
        exact h2 rfl
      · rw [z, ea] at e
        cases e
        exact h1 rfl
    have nsS : ∀ {b : Addr} {m : Str → Option Value}, s1.heap.Ns b m → (hidT s1.heap (startH a T0 sc)).Ns b m := fun {b m} ⟨o, es, ep, e, d, r⟩ => ⟨o, es, ep, stay e (by rw [d]; exact fun z => by cases z) (by rw [d]; exact fun z => by cases z), d, r⟩
    have kin : K.In (hidT s1.heap (startH a T0 sc)) := fun b o e => hidT_get (KX b o e) (by
      have n1 : b ≠ T0 := fun z => by
        rw [z, nT] at e
        cases e
      by_cases n2 : b = a
      · subst n2
        rw [startH_a aT]
        cases sc with
        | none => rfl
        | some u =>
          rw [(hsc u rfl).2] at e
          cases e
      · exact startH_o n1 n2)
    have mod : L2.Mod K mg (hidT s1.heap (startH a T0 sc)) := ⟨kin, nsS gN, ⟨mb, nsS bN, bE⟩, let ⟨mc, h1, h2⟩ := lim; ⟨mc, nsS h1, h2⟩⟩
    have gT : mainGlobals ≠ T0 := fun z => by
      obtain ⟨o, es, ep, e, d, _⟩ := gN
      rw [z, eT] at e
      cases e
      cases d
    have tb : TabB (hidT s1.heap (startH a T0 sc)) mg c T0 := by
      refine ⟨?_, ?_, gT⟩
      · obtain ⟨o, us, file, tf, flags, tg, inF, text, tt, e, r1, r2, r3, rs⟩ := C
        refine ⟨o, us, file, tf, flags, tg, inF, text, tt, stay e (by rw [r2]; exact fun z => by cases z) (by
          rw [r2]
          intro z
          injection z with z
          rw [z] at r3
          cases r3), r1, r2, r3, rs⟩
      · obtain ⟨bm, ob, b1, b2, b3, b4, b5, b6⟩ := bm
        refine ⟨bm, ob, b1, b2, fun z => ?_, fun z => ?_, stay b3 (by rw [b6]; exact fun z => by cases z) (by rw [b6]; exact fun z => by cases z), b4, b5, b6⟩
        · obtain ⟨o, es, ep, e, d, _⟩ := gN
          rw [z, e] at b3
          cases b3
          rw [d] at b6
          cases b6
        · rw [z, eT] at b3
          cases b3
          cases b6
    have e0 : Env0 P w K mg (hidT s1.heap (startH a T0 sc)) callerA [] s1 (startH a T0 sc) := ⟨rfl, mod, fun b o e => of_hidT e, Nat.le_of_eq (hidT_size _ _), trivial, (fun b hb => by cases hb), hok, .of_eq g0⟩
    obtain ⟨fd, ps, len, kp, bd, run⟩ := (F _ kin (nsS gN) tb).ex
    have ph := hp (startH a T0 sc) startH_T sq
    have hl1 : ([Value.ref a] : List Value).length = ps.length := len _ _ _ ph
    have bt := bd s1 [.ref a] KX (by rw [List.append_nil]; exact hl1)
    rw [List.append_nil] at bt
    refine codeAny_mono (run callerA [] s1 (startH a T0 sc) ⟨[.ref a], []⟩ [.ref a] [.ref a] _ rfl hr e0 bt (.cons rfl .nil) ph) fun r s2 h => ?_
    cases r with
    | error e => exact False.elim h
    | ok fl =>
      cases fl with
      | next => exact False.elim h
      | brk => exact False.elim h
      | cont => exact False.elim h
      | ret u =>
        obtain ⟨v, H2, os, bare, un, hok2, ru, rfl⟩ := h
        obtain rfl : u = Value.bool true := ru
        obtain ⟨more, et2⟩ := un.tbls T0 #[] startH_T
        have eT2 : s2.heap.get? T0 = some { cls := .none, data := .fields (#[] ++ more) } := hok2 T0 _ et2
        rw [Array.empty_append] at eT2
        have kept : ∀ b o, b ≠ T0 → s1.heap.get? b = some o → s2.heap.get? b = some o := fun b o nb e => by
          by_cases n2 : b = a
          · cases hs : sc with
            | none => exact un.keep b o e (by rw [n2, startH_a aT]; exact hs) (by intro z; cases z) (by simp)
            | some u =>
              obtain ⟨rfl, _⟩ := hsc u hs
              have q1 : startH a T0 sc a = some (.frz { cls := .type "list", data := .seq vs.toArray } (.lst (ns.map V.int))) := (startH_a aT).trans hs
              obtain ⟨e2, _⟩ := hok2 a _ (un.frzs a _ _ q1)
              rw [n2, ea] at e
              rw [n2, e2]
              exact e
          · exact un.keep b o e (startH_o nb n2) (by intro z; cases z) (by simp)
        refine ⟨rfl, ⟨fun b o e => ?_, fun b o e => ?_⟩, os, bare⟩
        · by_cases nb : b = T0
          · subst nb
            rw [eT] at e
            cases e
            exact .inr (.inl ⟨(C.tab eT).isCodeTable, rfl, #[], more, rfl, by rw [Array.empty_append]; exact eT2⟩)
          · exact .inl (kept b o nb e)
        · by_cases nb : b = T0
          · exact ⟨_, by rw [nb]; exact eT2⟩
          · exact ⟨o, kept b o nb e⟩
  cases hk : K.lookup a with
  | some o =>
    have e := KX a o hk
    rw [ea] at e
    cases e
    refine main none (fun u z => by cases z) (.inr ⟨_, vs.toArray, _, hk, rfl, rfl, rfl, ?_, rv⟩)
    have lv := hi.length
    rw [List.size_toArray, lv]
    exact hl
  | none => exact main (some (.frz { cls := .type "list", data := .seq vs.toArray } (.lst (ns.map V.int)))) (fun u z => by cases z; exact ⟨rfl, hk⟩) (.inl (.inr ⟨_, startH_a aT⟩))
end
end Kp
/-! the walk of the row -/
namespace Kp
open PySem PySem.Spec PyProof.Rows L2 LamX NdefX
theorem walk : PySem.W.WalkO (PySem.W.view R.prog [118]) loose (PySem.W.XL (PySem.W.view R.prog [118]) []) hk.says R.toRowW (HandSHeadRun.topDef R.prog 118) [] (fun f vs => PySem.call f vs) := by
  refine Att.attach_callB (l := PySem.Challenge.rw_halvedpictures_k92_whole_few_numbers_of) (n := 63) rfl (by kernel_rfl) fun w s₀ s₁ mg mb f o pm cd doc a vs ns G Y ho hd hcd hmg hobj hints hlen hbits hg => ?_
  obtain ⟨K, KX, eT, ok⟩ := Y
  have S : TX K mg := ⟨⟨_, KX, G.T.g⟩, ok⟩
  have en : (HandSHeadRun.topDef R.prog 118).name = ("law" : Str) := by kernel_rfl
  rw [en] at hmg
  have ef : f = He.ga K "law" := by
    have e := hmg.symm.trans (glo_law S)
    cases e
    rfl
  subst ef
  have nT : K.lookup (askP K) = none := Option.isNone_iff_eq_none.mp S.all.2.2.2.2
  have hl : ns.length ≤ sizeLine := Nat.le_trans hlen (by decide)
  have hr : Room 50 callerA := ⟨rfl, by decide, by decide⟩
  exact law_end (k := 50) (p := p_law K) (c := askC K) (T0 := askP K) KX G.T.g G.T.b G.T.builtins G.T.nolimit hg eT nT (PySem.W.codeHd_of_K KX S.all.2.2.2.1) G.T.bmain hobj hints hl hr
    (fun base _ _ tb => ok_law S tb) (fun H hT hS => ⟨a, ns, rfl, hS, ⟨#[], hT, True.intro, fun pos cv hc => by
      have z : codeAmong pos [] = some cv := hc
      simp [codeAmong] at z⟩, fun _ => rfl⟩)
end Kp
/-! the law holds -/
theorem PySem.Challenge.cw_halvedpictures_k92_whole_few_numbers_of_holds : PySem.Challenge.rw_halvedpictures_k92_whole_few_numbers_of.Holds := by
  exact Kp.holds_of Kp.walk
