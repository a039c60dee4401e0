import PyProof.Rows.All
import Wide.All
import OpenK.AllK
import Wide.FinOn
import KE.KStateDown
import Lean
import HandS.Base
import HandS.Call
import HandS.Ends
import HandS.More
import HandS.Words
import HandS.WordsExc
import HandS.Defaults
import HandS.Head0
import HandS.Head1
import HandS.Head2
import HandS.HeadEnd
import HandS.HeadHook1
import HandS.HeadHook2
import PySem.Challenge.RW_gatepapers_k67_whole_tidied_runs_alike
import KE.KDictKeyed
import HandS.List
import HandS.Comp
import HandS.Dict
import HandS.Iter
import HandS.Walk
import HandS.Deep
import HandS.Text
import HandS.Conv
import HandS.SortInts
import HandS.SortRule
import HandS.Flow
import HandS.TupLen
import HandS.Steps
import KE.KItemsList
import HandS.ListItems
import HandS.IsInst
import KE.GoesMore
import KE.GoesEnum
set_option Elab.async false
set_option linter.all false
set_option maxRecDepth 100000
set_option maxHeartbeats 0
/-! The text by places, the head. -/
namespace G
open PySem PySem.Spec PyProof.Rows L2
def top (i : Nat) : Stmt := PySem.Challenge.pw_gatepapers_k67_whole_tidied_runs_alike.main.body.getD i (.Pass ⟨0, 0, 0, 0⟩)
abbrev s_number_of : Stmt := top 2
abbrev s_figure : Stmt := top 4
abbrev s_turned : Stmt := top 5
abbrev s_widened : Stmt := top 6
abbrev s_hangs : Stmt := top 7
abbrev s_fixed : Stmt := top 8
abbrev s_joined : Stmt := top 9
abbrev s_flipped : Stmt := top 10
abbrev s_row_by : Stmt := top 11
abbrev s_ordered : Stmt := top 12
abbrev s_first_gate : Stmt := top 14
abbrev s_Making_init : Stmt := inClass (top 16) 0
abbrev s_Making_gate : Stmt := inClass (top 16) 1
abbrev s_Making_finished : Stmt := inClass (top 16) 3
abbrev s_unlike : Stmt := top 20
abbrev s_hung_on : Stmt := top 21
abbrev s_rising : Stmt := top 22
abbrev s_Senses_init : Stmt := inClass (top 23) 0
abbrev s_Senses_is_not : Stmt := inClass (top 23) 1
abbrev s_Senses_read_through : Stmt := inClass (top 23) 2
abbrev s_Senses_is_gate_left : Stmt := inClass (top 23) 3
abbrev s_Senses_sense_of : Stmt := inClass (top 23) 4
abbrev s_parted_reading : Stmt := top 24
abbrev s_widest : Stmt := top 25
abbrev s_Sheet_init : Stmt := inClass (top 27) 0
abbrev s_Sheet_helper : Stmt := inClass (top 27) 1
abbrev s_Sheet_in_key : Stmt := inClass (top 27) 2
abbrev s_Sheet_hold : Stmt := inClass (top 27) 3
abbrev s_Sheet_step : Stmt := inClass (top 27) 4
abbrev s_Sheet_claim : Stmt := inClass (top 27) 5
abbrev s_Sheet_number : Stmt := inClass (top 27) 6
abbrev s_Sheet_numbered : Stmt := inClass (top 27) 7
abbrev s_Sheet_paper : Stmt := inClass (top 27) 8
abbrev s_asked_by : Stmt := top 29
abbrev s_needed_senses : Stmt := top 30
abbrev s_Tidying_init : Stmt := inClass (top 31) 0
abbrev s_Tidying_next_sense : Stmt := inClass (top 31) 1
abbrev s_Tidying_own_places : Stmt := inClass (top 31) 2
abbrev s_Tidying_made : Stmt := inClass (top 31) 3
abbrev s_Tidying_lay_spots : Stmt := inClass (top 31) 4
abbrev s_Tidying_tie : Stmt := inClass (top 31) 5
abbrev s_Tidying_hung_spot : Stmt := inClass (top 31) 6
abbrev s_Tidying_reckoned : Stmt := inClass (top 31) 7
abbrev s_Tidying_ties : Stmt := inClass (top 31) 8
abbrev s_Tidying_lay_lines : Stmt := inClass (top 31) 9
abbrev s_Tidying_lay_steps : Stmt := inClass (top 31) 10
abbrev s_Tidying_end : Stmt := inClass (top 31) 11
abbrev s_Tidying_paper : Stmt := inClass (top 31) 12
abbrev s_tidied : Stmt := top 32
abbrev s__law_next : Stmt := top 34
abbrev s__law_state : Stmt := top 35
abbrev s__law_gate : Stmt := top 36
abbrev s__law_circuit : Stmt := top 37
abbrev s__law_copied : Stmt := top 38
abbrev s__law_some : Stmt := top 39
abbrev s__law_otherwise : Stmt := top 40
abbrev s__law_values : Stmt := top 41
abbrev s__law_turn : Stmt := top 42
abbrev s__law_first : Stmt := top 43
abbrev s__law_alike : Stmt := top 44
abbrev s_law : Stmt := top 45
def d_number_of : He.DefD := ⟨("number_of", none), "number_of", "number_of", defArgs s_number_of, defBody s_number_of, defScope s_number_of, [], []⟩
def d_figure : He.DefD := ⟨("figure", none), "figure", "figure", defArgs s_figure, defBody s_figure, defScope s_figure, [], []⟩
def d_turned : He.DefD := ⟨("turned", none), "turned", "turned", defArgs s_turned, defBody s_turned, defScope s_turned, [], []⟩
def d_widened : He.DefD := ⟨("widened", none), "widened", "widened", defArgs s_widened, defBody s_widened, defScope s_widened, [], []⟩
def d_hangs : He.DefD := ⟨("hangs", none), "hangs", "hangs", defArgs s_hangs, defBody s_hangs, defScope s_hangs, [], []⟩
def d_fixed : He.DefD := ⟨("fixed", none), "fixed", "fixed", defArgs s_fixed, defBody s_fixed, defScope s_fixed, [], []⟩
def d_joined : He.DefD := ⟨("joined", none), "joined", "joined", defArgs s_joined, defBody s_joined, defScope s_joined, [], []⟩
def d_flipped : He.DefD := ⟨("flipped", none), "flipped", "flipped", defArgs s_flipped, defBody s_flipped, defScope s_flipped, [], []⟩
def d_row_by : He.DefD := ⟨("row_by", none), "row_by", "row_by", defArgs s_row_by, defBody s_row_by, defScope s_row_by, [], []⟩
def d_ordered : He.DefD := ⟨("ordered", none), "ordered", "ordered", defArgs s_ordered, defBody s_ordered, defScope s_ordered, [], []⟩
def d_first_gate : He.DefD := ⟨("first_gate", none), "first_gate", "first_gate", defArgs s_first_gate, defBody s_first_gate, defScope s_first_gate, [], []⟩
def d_Making_init : He.DefD := ⟨("Making", some "__init__"), "__init__", "Making.__init__", defArgs s_Making_init, defBody s_Making_init, defScope s_Making_init, [], []⟩
def d_Making_gate : He.DefD := ⟨("Making", some "gate"), "gate", "Making.gate", defArgs s_Making_gate, defBody s_Making_gate, defScope s_Making_gate, [], []⟩
def d_Making_finished : He.DefD := ⟨("Making", some "finished"), "finished", "Making.finished", defArgs s_Making_finished, defBody s_Making_finished, defScope s_Making_finished, [], []⟩
def d_unlike : He.DefD := ⟨("unlike", none), "unlike", "unlike", defArgs s_unlike, defBody s_unlike, defScope s_unlike, [], []⟩
def d_hung_on : He.DefD := ⟨("hung_on", none), "hung_on", "hung_on", defArgs s_hung_on, defBody s_hung_on, defScope s_hung_on, [], []⟩
def d_rising : He.DefD := ⟨("rising", none), "rising", "rising", defArgs s_rising, defBody s_rising, defScope s_rising, [], []⟩
def d_Senses_init : He.DefD := ⟨("Senses", some "__init__"), "__init__", "Senses.__init__", defArgs s_Senses_init, defBody s_Senses_init, defScope s_Senses_init, [], []⟩
def d_Senses_is_not : He.DefD := ⟨("Senses", some "is_not"), "is_not", "Senses.is_not", defArgs s_Senses_is_not, defBody s_Senses_is_not, defScope s_Senses_is_not, [], []⟩
def d_Senses_read_through : He.DefD := ⟨("Senses", some "read_through"), "read_through", "Senses.read_through", defArgs s_Senses_read_through, defBody s_Senses_read_through, defScope s_Senses_read_through, [], []⟩
def d_Senses_is_gate_left : He.DefD := ⟨("Senses", some "is_gate_left"), "is_gate_left", "Senses.is_gate_left", defArgs s_Senses_is_gate_left, defBody s_Senses_is_gate_left, defScope s_Senses_is_gate_left, [], []⟩
def d_Senses_sense_of : He.DefD := ⟨("Senses", some "sense_of"), "sense_of", "Senses.sense_of", defArgs s_Senses_sense_of, defBody s_Senses_sense_of, defScope s_Senses_sense_of, [], []⟩
def d_parted_reading : He.DefD := ⟨("parted_reading", none), "parted_reading", "parted_reading", defArgs s_parted_reading, defBody s_parted_reading, defScope s_parted_reading, [], []⟩
def d_widest : He.DefD := ⟨("widest", none), "widest", "widest", defArgs s_widest, defBody s_widest, defScope s_widest, [], []⟩
def d_Sheet_init : He.DefD := ⟨("Sheet", some "__init__"), "__init__", "Sheet.__init__", defArgs s_Sheet_init, defBody s_Sheet_init, defScope s_Sheet_init, [], []⟩
def d_Sheet_helper : He.DefD := ⟨("Sheet", some "helper"), "helper", "Sheet.helper", defArgs s_Sheet_helper, defBody s_Sheet_helper, defScope s_Sheet_helper, [], []⟩
def d_Sheet_in_key : He.DefD := ⟨("Sheet", some "in_key"), "in_key", "Sheet.in_key", defArgs s_Sheet_in_key, defBody s_Sheet_in_key, defScope s_Sheet_in_key, [], []⟩
def d_Sheet_hold : He.DefD := ⟨("Sheet", some "hold"), "hold", "Sheet.hold", defArgs s_Sheet_hold, defBody s_Sheet_hold, defScope s_Sheet_hold, [], []⟩
def d_Sheet_step : He.DefD := ⟨("Sheet", some "step"), "step", "Sheet.step", defArgs s_Sheet_step, defBody s_Sheet_step, defScope s_Sheet_step, [], []⟩
def d_Sheet_claim : He.DefD := ⟨("Sheet", some "claim"), "claim", "Sheet.claim", defArgs s_Sheet_claim, defBody s_Sheet_claim, defScope s_Sheet_claim, [], []⟩
def d_Sheet_number : He.DefD := ⟨("Sheet", some "number"), "number", "Sheet.number", defArgs s_Sheet_number, defBody s_Sheet_number, defScope s_Sheet_number, [], []⟩
def d_Sheet_numbered : He.DefD := ⟨("Sheet", some "numbered"), "numbered", "Sheet.numbered", defArgs s_Sheet_numbered, defBody s_Sheet_numbered, defScope s_Sheet_numbered, [], []⟩
def d_Sheet_paper : He.DefD := ⟨("Sheet", some "paper"), "paper", "Sheet.paper", defArgs s_Sheet_paper, defBody s_Sheet_paper, defScope s_Sheet_paper, [], []⟩
def d_asked_by : He.DefD := ⟨("asked_by", none), "asked_by", "asked_by", defArgs s_asked_by, defBody s_asked_by, defScope s_asked_by, [], []⟩
def d_needed_senses : He.DefD := ⟨("needed_senses", none), "needed_senses", "needed_senses", defArgs s_needed_senses, defBody s_needed_senses, defScope s_needed_senses, [], []⟩
def d_Tidying_init : He.DefD := ⟨("Tidying", some "__init__"), "__init__", "Tidying.__init__", defArgs s_Tidying_init, defBody s_Tidying_init, defScope s_Tidying_init, [], []⟩
def d_Tidying_next_sense : He.DefD := ⟨("Tidying", some "next_sense"), "next_sense", "Tidying.next_sense", defArgs s_Tidying_next_sense, defBody s_Tidying_next_sense, defScope s_Tidying_next_sense, [], []⟩
def d_Tidying_own_places : He.DefD := ⟨("Tidying", some "own_places"), "own_places", "Tidying.own_places", defArgs s_Tidying_own_places, defBody s_Tidying_own_places, defScope s_Tidying_own_places, [], []⟩
def d_Tidying_made : He.DefD := ⟨("Tidying", some "made"), "made", "Tidying.made", defArgs s_Tidying_made, defBody s_Tidying_made, defScope s_Tidying_made, [], []⟩
def d_Tidying_lay_spots : He.DefD := ⟨("Tidying", some "lay_spots"), "lay_spots", "Tidying.lay_spots", defArgs s_Tidying_lay_spots, defBody s_Tidying_lay_spots, defScope s_Tidying_lay_spots, [], []⟩
def d_Tidying_tie : He.DefD := ⟨("Tidying", some "tie"), "tie", "Tidying.tie", defArgs s_Tidying_tie, defBody s_Tidying_tie, defScope s_Tidying_tie, [], []⟩
def d_Tidying_hung_spot : He.DefD := ⟨("Tidying", some "hung_spot"), "hung_spot", "Tidying.hung_spot", defArgs s_Tidying_hung_spot, defBody s_Tidying_hung_spot, defScope s_Tidying_hung_spot, [], []⟩
def d_Tidying_reckoned : He.DefD := ⟨("Tidying", some "reckoned"), "reckoned", "Tidying.reckoned", defArgs s_Tidying_reckoned, defBody s_Tidying_reckoned, defScope s_Tidying_reckoned, [], []⟩
def d_Tidying_ties : He.DefD := ⟨("Tidying", some "ties"), "ties", "Tidying.ties", defArgs s_Tidying_ties, defBody s_Tidying_ties, defScope s_Tidying_ties, [], []⟩
def d_Tidying_lay_lines : He.DefD := ⟨("Tidying", some "lay_lines"), "lay_lines", "Tidying.lay_lines", defArgs s_Tidying_lay_lines, defBody s_Tidying_lay_lines, defScope s_Tidying_lay_lines, [], []⟩
def d_Tidying_lay_steps : He.DefD := ⟨("Tidying", some "lay_steps"), "lay_steps", "Tidying.lay_steps", defArgs s_Tidying_lay_steps, defBody s_Tidying_lay_steps, defScope s_Tidying_lay_steps, [], []⟩
def d_Tidying_end : He.DefD := ⟨("Tidying", some "end"), "end", "Tidying.end", defArgs s_Tidying_end, defBody s_Tidying_end, defScope s_Tidying_end, [], []⟩
def d_Tidying_paper : He.DefD := ⟨("Tidying", some "paper"), "paper", "Tidying.paper", defArgs s_Tidying_paper, defBody s_Tidying_paper, defScope s_Tidying_paper, [], []⟩
def d_tidied : He.DefD := ⟨("tidied", none), "tidied", "tidied", defArgs s_tidied, defBody s_tidied, defScope s_tidied, [], []⟩
def d__law_next : He.DefD := ⟨("_law_next", none), "_law_next", "_law_next", defArgs s__law_next, defBody s__law_next, defScope s__law_next, [], []⟩
def d__law_state : He.DefD := ⟨("_law_state", none), "_law_state", "_law_state", defArgs s__law_state, defBody s__law_state, defScope s__law_state, [], []⟩
def d__law_gate : He.DefD := ⟨("_law_gate", none), "_law_gate", "_law_gate", defArgs s__law_gate, defBody s__law_gate, defScope s__law_gate, [], []⟩
def d__law_circuit : He.DefD := ⟨("_law_circuit", none), "_law_circuit", "_law_circuit", defArgs s__law_circuit, defBody s__law_circuit, defScope s__law_circuit, [], []⟩
def d__law_copied : He.DefD := ⟨("_law_copied", none), "_law_copied", "_law_copied", defArgs s__law_copied, defBody s__law_copied, defScope s__law_copied, [], []⟩
def d__law_some : He.DefD := ⟨("_law_some", none), "_law_some", "_law_some", defArgs s__law_some, defBody s__law_some, defScope s__law_some, [], []⟩
def d__law_otherwise : He.DefD := ⟨("_law_otherwise", none), "_law_otherwise", "_law_otherwise", defArgs s__law_otherwise, defBody s__law_otherwise, defScope s__law_otherwise, [], []⟩
def d__law_values : He.DefD := ⟨("_law_values", none), "_law_values", "_law_values", defArgs s__law_values, defBody s__law_values, defScope s__law_values, [], []⟩
def d__law_turn : He.DefD := ⟨("_law_turn", none), "_law_turn", "_law_turn", defArgs s__law_turn, defBody s__law_turn, defScope s__law_turn, [], []⟩
def d__law_first : He.DefD := ⟨("_law_first", none), "_law_first", "_law_first", defArgs s__law_first, defBody s__law_first, defScope s__law_first, [], []⟩
def d__law_alike : He.DefD := ⟨("_law_alike", none), "_law_alike", "_law_alike", defArgs s__law_alike, defBody s__law_alike, defScope s__law_alike, [], []⟩
def d_law : He.DefD := ⟨("law", none), "law", "law", defArgs s_law, defBody s_law, defScope s_law, [], []⟩
def fn0 : List He.DefD := [d_number_of, d_figure, d_turned, d_widened, d_hangs, d_fixed, d_joined, d_flipped, d_row_by, d_ordered, d_first_gate, d_Making_init, d_Making_gate, d_Making_finished, d_unlike, d_hung_on, d_rising, d_Senses_init, d_Senses_is_not, d_Senses_read_through]
def fn1 : List He.DefD := [d_Senses_is_gate_left, d_Senses_sense_of, d_parted_reading, d_widest, d_Sheet_init, d_Sheet_helper, d_Sheet_in_key, d_Sheet_hold, d_Sheet_step, d_Sheet_claim, d_Sheet_number, d_Sheet_numbered, d_Sheet_paper, d_asked_by, d_needed_senses, d_Tidying_init, d_Tidying_next_sense, d_Tidying_own_places, d_Tidying_made, d_Tidying_lay_spots]
def fn2 : List He.DefD := [d_Tidying_tie, d_Tidying_hung_spot, d_Tidying_reckoned, d_Tidying_ties, d_Tidying_lay_lines, d_Tidying_lay_steps, d_Tidying_end, d_Tidying_paper, d_tidied, d__law_next, d__law_state, d__law_gate, d__law_circuit, d__law_copied, d__law_some, d__law_otherwise, d__law_values, d__law_turn, d__law_first, d__law_alike]
def fn3 : List He.DefD := [d_law]
def fn : List He.DefD := fn0 ++ fn1 ++ fn2 ++ fn3
def fa0 : List He.Fa := [.glo "number_of", .glo "figure", .glo "turned", .glo "widened", .glo "hangs", .glo "fixed", .glo "joined", .glo "flipped", .glo "row_by", .glo "ordered", .glo "first_gate", .glo "Making", .glo "unlike", .glo "hung_on", .glo "rising", .glo "Senses", .glo "parted_reading", .glo "widest", .glo "Sheet", .glo "asked_by"]
def fa1 : List He.Fa := [.glo "needed_senses", .glo "Tidying", .glo "tidied", .glo "_law_next", .glo "_law_state", .glo "_law_gate", .glo "_law_circuit", .glo "_law_copied", .glo "_law_some", .glo "_law_otherwise", .glo "_law_values", .glo "_law_turn", .glo "_law_first", .glo "_law_alike", .glo "law", .int "NOT" 1, .int "SAME" 2, .free "abs", .free "enumerate", .free "int"]
def fa2 : List He.Fa := [.free "isinstance", .free "len", .free "list", .free "min", .free "range", .free "reversed", .free "sorted", .free "tuple", .free "zip", .cls "Making", .mkr "Making", .noat "Making" "ins", .noat "Making" "begins", .noat "Making" "gates", .noat "Making" "steadies", .meth "Making" "gate", .meth "Making" "finished", .cls "Senses", .mkr "Senses", .noat "Senses" "told"]
def fa3 : List He.Fa := [.noat "Senses" "left", .noat "Senses" "known", .meth "Senses" "is_not", .meth "Senses" "read_through", .meth "Senses" "is_gate_left", .meth "Senses" "sense_of", .cls "Sheet", .mkr "Sheet", .noat "Sheet" "ins", .noat "Sheet" "helpers", .noat "Sheet" "kept", .noat "Sheet" "claims", .meth "Sheet" "helper", .meth "Sheet" "in_key", .meth "Sheet" "hold", .meth "Sheet" "step", .meth "Sheet" "claim", .meth "Sheet" "number", .meth "Sheet" "numbered", .meth "Sheet" "paper"]
def fa4 : List He.Fa := [.cls "Tidying", .mkr "Tidying", .noat "Tidying" "circuit", .noat "Tidying" "senses", .noat "Tidying" "needed", .noat "Tidying" "sheet", .noat "Tidying" "fresh", .noat "Tidying" "spots", .noat "Tidying" "lines", .meth "Tidying" "next_sense", .meth "Tidying" "own_places", .meth "Tidying" "made", .meth "Tidying" "lay_spots", .meth "Tidying" "tie", .meth "Tidying" "hung_spot", .meth "Tidying" "reckoned", .meth "Tidying" "ties", .meth "Tidying" "lay_lines", .meth "Tidying" "lay_steps", .meth "Tidying" "end"]
def fa5 : List He.Fa := [.meth "Tidying" "paper"]
def fa : List He.Fa := fa0 ++ fa1 ++ fa2 ++ fa3 ++ fa4 ++ fa5
def names0 : List PySem.Str := [("_wall" : PySem.Str), ("number_of" : PySem.Str), ("figure" : PySem.Str), ("turned" : PySem.Str), ("widened" : PySem.Str), ("hangs" : PySem.Str), ("fixed" : PySem.Str), ("joined" : PySem.Str), ("flipped" : PySem.Str), ("row_by" : PySem.Str), ("ordered" : PySem.Str), ("first_gate" : PySem.Str), ("Making" : PySem.Str), ("NOT" : PySem.Str), ("SAME" : PySem.Str), ("unlike" : PySem.Str), ("hung_on" : PySem.Str), ("rising" : PySem.Str), ("Senses" : PySem.Str), ("parted_reading" : PySem.Str)]
def names1 : List PySem.Str := [("widest" : PySem.Str), ("Sheet" : PySem.Str), ("asked_by" : PySem.Str), ("needed_senses" : PySem.Str), ("Tidying" : PySem.Str), ("tidied" : PySem.Str), ("_law_next" : PySem.Str), ("_law_state" : PySem.Str), ("_law_gate" : PySem.Str), ("_law_circuit" : PySem.Str), ("_law_copied" : PySem.Str), ("_law_some" : PySem.Str), ("_law_otherwise" : PySem.Str), ("_law_values" : PySem.Str), ("_law_turn" : PySem.Str), ("_law_first" : PySem.Str), ("_law_alike" : PySem.Str)]
def names : List PySem.Str := names0 ++ names1
abbrev R : PySem.W.OpenRow := PySem.W.OpenLaw.row PySem.Challenge.rw_gatepapers_k67_whole_tidied_runs_alike
abbrev hk : PySem.W.Hook := He.hookD 5 fa fn
def ob (s : PySem.W.SharedT) : He.AlD := He.obsDG 5 fa fn (HandSHeadRun.getT s)
theorem ob_eq (s : PySem.W.SharedT) : ob s = hk.obs s.abs := He.obsDG_eq (HandSHeadRun.getT_eq s)
theorem run (w : World) : HandSHeadRun.RunEq R (PySem.W.view R.prog [45]) hk ob 4000 names w := by
  intro os
  kernel_rfl
end G
set_option autoImplicit false
/-! The program's defs as plain functions. -/
namespace M
def numN (bits : List Nat) : Nat := bits.foldr (fun b n => 2 * n + b) 0
def figN (t r : Nat) : Nat := t >>> r &&& 1
def turnN (r k : Nat) : Nat := r ^^^ 1 <<< k
def widN (r k b : Nat) : Nat := (r &&& (1 <<< k - 1)) ||| b <<< k ||| (r >>> k) <<< (k + 1)
def hangsN (t m k : Nat) : Bool := (List.range (1 <<< m)).any fun r => !decide (figN t r = figN t (turnN r k))
def fixN (t m k b : Nat) : Nat := numN ((List.range (1 <<< (m - 1))).map fun r => figN t (widN r k b))
def joinN (t m k j : Nat) : Nat := numN ((List.range (1 <<< (m - 1))).map fun r => figN t (widN r j (r >>> k &&& 1)))
def flipN (t m k : Nat) : Nat := numN ((List.range (1 <<< m)).map fun r => figN t (turnN r k))
def rowByN (r : Nat) (order : List Nat) : Nat := (order.zipIdx).foldl (fun made q => made ||| (r >>> q.2 &&& 1) <<< q.1) 0
def ordN (t : Nat) (order : List Nat) : Nat := numN ((List.range (1 <<< order.length)).map fun r => figN t (rowByN r order))
end M
namespace M
/-! circuits -/
abbrev Gate := Nat × List Nat
structure Circ where
  ins : Nat
  mems : List (Nat × Nat)
  gates : List Gate
  outs : List Nat
def Circ.first (c : Circ) : Nat := c.ins + c.mems.length
/-! what is left of a gate -/
def unlikeN (t : Nat) (ps : List Nat) (at_ : Nat) : Nat × List Nat :=
  if h : at_ < ps.length then
    if ps[at_] ∈ ps.take at_ then unlikeN (joinN t ps.length (ps.idxOf ps[at_]) at_) (ps.take at_ ++ ps.drop (at_ + 1)) at_
    else unlikeN t ps (at_ + 1)
  else (t, ps)
termination_by ps.length - at_
decreasing_by
  · rw [List.length_append, List.length_take, List.length_drop]
    omega
  · omega
def hungN (t : Nat) (ps : List Nat) (at_ : Nat) : Nat × List Nat :=
  if h : at_ < ps.length then
    if hangsN t ps.length at_ = true then hungN t ps (at_ + 1)
    else hungN (fixN t ps.length at_ 0) (ps.take at_ ++ ps.drop (at_ + 1)) at_
  else (t, ps)
termination_by ps.length - at_
decreasing_by
  · omega
  · rw [List.length_append, List.length_take, List.length_drop]
    omega
/-- pairs in rising order -/
def lexB (p q : Nat × Nat) : Bool := decide (p.1 < q.1) || (decide (p.1 = q.1) && decide (p.2 ≤ q.2))
def sortP (ps : List (Nat × Nat)) : List (Nat × Nat) := ps.mergeSort lexB
def sortN (ns : List Nat) : List Nat := ns.mergeSort fun a b => decide (a ≤ b)
def risingN (t : Nat) (ps : List Nat) : Nat × List Nat := (ordN t ((sortP (ps.zipIdx)).map (·.2)), sortN ps)
end M
set_option Elab.async false
set_option linter.all false
set_option maxRecDepth 100000
set_option maxHeartbeats 4000000
set_option autoImplicit false
/-! The data layer: what a body does, told over plain data; the heap hidden. -/
namespace D
open PySem L2

/-! ### data in the heap -/
mutual
inductive Dq (H : Hp) : V → PyData → Prop
  | non : Dq H .non .none
  | bl (b : Bool) : Dq H (.bl b) (.bool b)
  | int (i : Int) : Dq H (.int i) (.int i)
  | str (x : Str) : Dq H (.str x) (.str x)
  | lst {a : Addr} {xs : List V} {ds : List PyData} : H a = some (.lst xs) → DqAll H xs ds → Dq H (.ref a) (.list ds)
  | tup {a : Addr} {xs : List V} {ds : List PyData} : H a = some (.tup xs) → DqAll H xs ds → Dq H (.ref a) (.tuple ds)
inductive DqAll (H : Hp) : List V → List PyData → Prop
  | nil : DqAll H [] []
  | cons {v : V} {vs : List V} {d : PyData} {ds : List PyData} : Dq H v d → DqAll H vs ds → DqAll H (v :: vs) (d :: ds)
end
mutual
theorem Dq.mono {H H' : Hp} (e : Same H H') : ∀ {d : PyData} {v : V}, Dq H v d → Dq H' v d
  | _, _, .non => .non
  | _, _, .bl b => .bl b
  | _, _, .int i => .int i
  | _, _, .str x => .str x
  | _, _, .lst h a => .lst (e _ _ h) (DqAll.mono e a)
  | _, _, .tup h a => .tup (e _ _ h) (DqAll.mono e a)
theorem DqAll.mono {H H' : Hp} (e : Same H H') : ∀ {ds : List PyData} {vs : List V}, DqAll H vs ds → DqAll H' vs ds
  | _, _, .nil => .nil
  | _, _, .cons h t => .cons (Dq.mono e h) (DqAll.mono e t)
end
mutual
theorem Dq.dp {K : PySem.W.Frag} {H : Hp} : ∀ {d : PyData} {v : V}, Dq H v d → Dp K H v d
  | _, _, .non => .non
  | _, _, .bl b => .bl b
  | _, _, .int i => .int i
  | _, _, .str x => .str x
  | _, _, .lst h a => .lst (SqL.of h) (DqAll.dp a)
  | _, _, .tup h a => .tup (SqT.of h) (DqAll.dp a)
theorem DqAll.dp {K : PySem.W.Frag} {H : Hp} : ∀ {ds : List PyData} {vs : List V}, DqAll H vs ds → DpAll K H vs ds
  | _, _, .nil => .nil
  | _, _, .cons h t => .cons (Dq.dp h) (DqAll.dp t)
end
section
variable {H H' : Hp}
theorem DqAll.length : ∀ {vs : List V} {ds : List PyData}, DqAll H vs ds → vs.length = ds.length
  | _, _, .nil => rfl
  | _, _, .cons _ t => congrArg Nat.succ (DqAll.length t)
theorem DqAll.get : ∀ {vs : List V} {ds : List PyData} {i : Nat} {d : PyData}, DqAll H vs ds → ds[i]? = some d → ∃ v, vs[i]? = some v ∧ Dq H v d
  | _, _, i, _, .nil, e => by simp at e
  | _, _, 0, d, .cons h t, e => by
    simp at e
    subst e
    exact ⟨_, rfl, h⟩
  | _, _, i + 1, d, .cons h t, e => by
    obtain ⟨v, h1, h2⟩ := DqAll.get (i := i) (d := d) t (by simpa using e)
    exact ⟨v, by simpa using h1, h2⟩
theorem DqAll.get' : ∀ {vs : List V} {ds : List PyData} {i : Nat} {v : V}, DqAll H vs ds → vs[i]? = some v → ∃ d, ds[i]? = some d ∧ Dq H v d
  | _, _, i, _, .nil, e => by simp at e
  | _, _, 0, d, .cons h t, e => by
    simp at e
    subst e
    exact ⟨_, rfl, h⟩
  | _, _, i + 1, d, .cons h t, e => by
    obtain ⟨v, h1, h2⟩ := DqAll.get' (i := i) (v := d) t (by simpa using e)
    exact ⟨v, by simpa using h1, h2⟩
theorem DqAll.append : ∀ {vs ws : List V} {ds es : List PyData}, DqAll H vs ds → DqAll H ws es → DqAll H (vs ++ ws) (ds ++ es)
  | _, _, _, _, .nil, s => s
  | _, _, _, _, .cons r t, s => .cons r (DqAll.append t s)
theorem DqAll.take : ∀ {vs : List V} {ds : List PyData} (n : Nat), DqAll H vs ds → DqAll H (vs.take n) (ds.take n)
  | _, _, 0, _ => .nil
  | _, _, _ + 1, .nil => .nil
  | _, _, n + 1, .cons r t => .cons r (DqAll.take n t)
theorem DqAll.drop : ∀ {vs : List V} {ds : List PyData} (n : Nat), DqAll H vs ds → DqAll H (vs.drop n) (ds.drop n)
  | _, _, 0, r => r
  | _, _, _ + 1, .nil => .nil
  | _, _, n + 1, .cons r t => DqAll.drop n t
theorem DqAll.set {v : V} {d : PyData} (r : Dq H v d) : ∀ {vs : List V} {ds : List PyData} (i : Nat), DqAll H vs ds → DqAll H (vs.set i v) (ds.set i d)
  | _, _, _, .nil => .nil
  | _, _, 0, .cons _ t => .cons r t
  | _, _, i + 1, .cons q t => .cons q (DqAll.set r i t)
theorem DqAll.ints : ∀ {ns : List Int} {vs : List V}, DqAll H vs (ns.map PyData.int) → vs = ns.map V.int
  | [], _, h => by cases h; rfl
  | n :: ns, _, h => by
    rw [List.map_cons] at h
    cases h with
    | cons h t =>
      cases h
      rw [DqAll.ints t]
      rfl
theorem DqAll.ofInts : ∀ (ns : List Int), DqAll H (ns.map V.int) (ns.map PyData.int)
  | [] => .nil
  | n :: ns => .cons (.int n) (DqAll.ofInts ns)
theorem Dq.int_inv {v : V} {i : Int} (h : Dq H v (.int i)) : v = .int i := by cases h; rfl
theorem Dq.str_inv {v : V} {i : Str} (h : Dq H v (.str i)) : v = .str i := by cases h; rfl
theorem Dq.bl_inv {v : V} {i : Bool} (h : Dq H v (.bool i)) : v = .bl i := by cases h; rfl
theorem Dq.lst_inv {v : V} {ds : List PyData} (h : Dq H v (.list ds)) : ∃ a xs, v = .ref a ∧ H a = some (.lst xs) ∧ DqAll H xs ds := by
  cases h with
  | lst h a => exact ⟨_, _, rfl, h, a⟩
theorem Dq.tup_inv {v : V} {ds : List PyData} (h : Dq H v (.tuple ds)) : ∃ a xs, v = .ref a ∧ H a = some (.tup xs) ∧ DqAll H xs ds := by
  cases h with
  | tup h a => exact ⟨_, _, rfl, h, a⟩
end

/-! ### dicts whose keys are data of any depth -/
abbrev NK := NestedKey
abbrev Ent := NK × Addr × V
/-- the dict at a holds these entries: the key, its own tuple, the value -/
def PhiN (P : Program) (w : World) (a : Addr) (es : List Ent) (h : Heap) : Prop :=
  es.length ≤ sizeLine ∧ (a == sysModules) = false ∧ ∃ xs : List (NK × Addr × Value), Paired (fun (p : Ent) (q : NK × Addr × Value) => p.1 = q.1 ∧ p.2.1 = q.2.1 ∧ RelV p.2.2 q.2.2) es xs ∧
    ∃ o ds ep, h.get? a = some o ∧ o.ExactDict ∧ o.data = .dict ds ep ∧ ds.toList = xs.map (entryOfKey (nestedKind P w)) ∧ (xs.map (·.1)).Nodup
def dN (P : Program) (w : World) (a : Addr) (es : List Ent) : HO := .ext (PhiN P w a es)
abbrev EntOk (S : Hp) : List Ent → List (NK × PyData) → Prop := Paired fun (p : Ent) (q : NK × PyData) => p.1 = q.1 ∧ (Dq S (.ref p.2.1) (NestedKey.data p.1) ∧ p.1.depth ≤ 8) ∧ Dq S p.2.2 q.2

/-! ### what is known of a slot, of a value -/
inductive AS where
  | un
  | raw (v : V)
  | dat (d : PyData)
  | own (ds : List PyData)
  | dic (kvs : List (NK × PyData))
def AS.mine : AS → Bool
  | .own _ => true
  | .dic _ => true
  | _ => false
inductive Rs where
  | dat (d : PyData)
  | raw (v : V)
  | own (i : Nat)
def ResOk (σ : L2.St) (S : Hp) (v : V) : Rs → Prop
  | .dat d => Dq S v d
  | .raw u => v = u
  | .own i => σ[i]? = some (some v)
/-- what else stands: F its objects' addresses, W what is true of them -/
structure Wd where
  F : Addr → Prop
  W : Hp → Hp → Prop
  cl : ∀ S H S' H', W S H → Same S S' → (∀ p, F p → S' p = S p ∧ H' p = H p) → W S' H'
def Wd.top : Wd := ⟨fun _ => False, fun _ _ => True, fun _ _ _ _ _ _ _ => trivial⟩
variable {P : Program} {w : World}
def SlotOk (P : Program) (w : World) (F : Addr → Prop) (S H : Hp) : AS → Option V → Prop
  | .un, _ => True
  | .raw v, o => o = some v
  | .dat d, o => ∃ v, o = some v ∧ Dq S v d
  | .own ds, o => ∃ p xs, o = some (.ref p) ∧ ¬ F p ∧ S p = none ∧ H p = some (.lst xs) ∧ DqAll S xs ds
  | .dic kvs, o => ∃ p es, o = some (.ref p) ∧ ¬ F p ∧ S p = none ∧ H p = some (dN P w p es) ∧ EntOk S es kvs
def Mine (δ : List AS) (σ : L2.St) (i : Nat) (p : Addr) : Prop := (∃ a, δ[i]? = some a ∧ a.mine = true) ∧ σ[i]? = some (some (.ref p))
/-- what a step may touch -/
def Tch (Ω : Wd) (δ : List AS) (σ : L2.St) (p : Addr) : Prop := Ω.F p ∨ ∃ i, Mine δ σ i p
/-- S: the part of the heap that stands still from now on; H: the heap -/
structure Good (P : Program) (w : World) (Ω : Wd) (δ : List AS) (σ : L2.St) (S H : Hp) : Prop where
  sub : Same S H
  wld : Ω.W S H
  fok : ∀ p, Ω.F p → ∃ o, H p = some o
  len : σ.length = δ.length
  slot : ∀ (i : Nat) (a : AS), δ[i]? = some a → SlotOk P w Ω.F S H a (σ[i]?.join)
  dist : ∀ (i j : Nat) (p : Addr), Mine δ σ i p → Mine δ σ j p → i = j
structure Step (Ω : Wd) (δ : List AS) (σ : L2.St) (S H : Hp) (Ω' : Wd) (δ' : List AS) (σ' : L2.St) (S' H' : Hp) : Prop where
  same : Same S S'
  keep : ∀ p o, H p = some o → ¬ Tch Ω δ σ p → H' p = some o ∧ S' p = S p ∧ ¬ Tch Ω' δ' σ' p
  dom : ∀ p o, H p = some o → ∃ o', H' p = some o'
section
variable {Ω Ω1 Ω2 : Wd} {δ δ1 δ2 : List AS} {σ σ1 σ2 : L2.St} {S H S1 H1 S2 H2 : Hp}
theorem Step.refl : Step Ω δ σ S H Ω δ σ S H := ⟨Same.refl S, fun p o h n => ⟨h, rfl, n⟩, fun p o h => ⟨o, h⟩⟩
theorem Step.trans (a : Step Ω δ σ S H Ω1 δ1 σ1 S1 H1) (b : Step Ω1 δ1 σ1 S1 H1 Ω2 δ2 σ2 S2 H2) : Step Ω δ σ S H Ω2 δ2 σ2 S2 H2 :=
  ⟨a.same.trans b.same, fun p o h n => by
    obtain ⟨h1, e1, n1⟩ := a.keep p o h n
    obtain ⟨h2, e2, n2⟩ := b.keep p o h1 n1
    exact ⟨h2, e2.trans e1, n2⟩, fun p o h => let ⟨o1, h1⟩ := a.dom p o h; b.dom p o1 h1⟩
theorem ResOk.mono {v : V} {r : Rs} (h : ResOk σ S v r) (e : Same S S1) : ResOk σ S1 v r := by
  cases r with
  | dat d => exact Dq.mono e h
  | raw u => exact h
  | own i => exact h
theorem EntOk.mono {es : List Ent} {kvs : List (NK × PyData)} (h : EntOk S es kvs) (e : Same S S1) : EntOk S1 es kvs :=
  Paired.mapP h fun _ _ z => ⟨z.1, ⟨Dq.mono e z.2.1.1, z.2.1.2⟩, Dq.mono e z.2.2⟩
/-- the heap grows by new things -/
theorem Good.grow (g : Good P w Ω δ σ S H) (h1 : Same S S1) (h2 : Same S1 H1) (h3 : Same H H1) (h4 : ∀ p o, H p = some o → S1 p = S p) : Good P w Ω δ σ S1 H1 where
  sub := h2
  wld := Ω.cl S H S1 H1 g.wld h1 fun p hp => by
    obtain ⟨o, e⟩ := g.fok p hp
    exact ⟨h4 p o e, (h3 p o e).trans e.symm⟩
  fok := fun p hp => let ⟨o, e⟩ := g.fok p hp; ⟨o, h3 p o e⟩
  len := g.len
  slot := fun i a e => by
    have q := g.slot i a e
    cases a with
    | un => trivial
    | raw v => exact q
    | dat d => obtain ⟨v, q1, q2⟩ := q; exact ⟨v, q1, Dq.mono h1 q2⟩
    | own ds => obtain ⟨p, xs, q1, q2, q3, q4, q5⟩ := q; exact ⟨p, xs, q1, q2, (h4 p _ q4).trans q3, h3 _ _ q4, DqAll.mono h1 q5⟩
    | dic kvs => obtain ⟨p, xs, q1, q2, q3, q4, q5⟩ := q; exact ⟨p, xs, q1, q2, (h4 p _ q4).trans q3, h3 _ _ q4, EntOk.mono q5 h1⟩
  dist := g.dist
theorem Step.grow (h1 : Same S S1) (h3 : Same H H1) (h4 : ∀ p o, H p = some o → S1 p = S p) : Step Ω δ σ S H Ω δ σ S1 H1 :=
  ⟨h1, fun p o h n => ⟨h3 p o h, h4 p o h, n⟩, fun p o h => ⟨o, h3 p o h⟩⟩
/-- a new object, to stand still -/
theorem Same.new {H : Hp} {p : Addr} {o : HO} (h : H p = none) : Same H (upd H p o) := fun a u e => by
  rw [upd_ne (ne_of_none e h)]
  exact e
theorem Same.up {S H : Hp} {p : Addr} {o : HO} (e : Same S H) : Same (upd S p o) (upd H p o) := fun a u h => by
  by_cases q : a = p
  · subst q
    rw [upd_same] at h ⊢
    exact h
  · rw [upd_ne q] at h ⊢
    exact e a u h
theorem Step.back (s : Step Ω δ σ S H Ω1 δ1 σ1 S1 H1) {p : Addr} (h : H1 p = none) : H p = none := by
  cases e : H p with
  | none => rfl
  | some o =>
    obtain ⟨u, hu⟩ := s.dom p o e
    rw [hu] at h
    cases h
theorem Good.new {p : Addr} {o : HO} (g : Good P w Ω δ σ S H) (hp : H p = none) : Good P w Ω δ σ (upd S p o) (upd H p o) :=
  g.grow (Same.new (g.sub.free hp)) (Same.up g.sub) (Same.new hp) fun q u e => upd_ne (ne_of_none e hp)
theorem Step.new {p : Addr} {o : HO} (sub : Same S H) (hp : H p = none) : Step Ω δ σ S H Ω δ σ (upd S p o) (upd H p o) :=
  Step.grow (Same.new (sub.free hp)) (Same.new hp) fun q u e => upd_ne (ne_of_none e hp)
theorem Good.new' {p : Addr} {o : HO} (g : Good P w Ω δ σ S H) (hp : H p = none) : Good P w Ω δ σ S (upd H p o) :=
  g.grow (Same.refl S) (g.sub.trans (Same.new hp)) (Same.new hp) fun _ _ _ => rfl
theorem Step.new' {p : Addr} {o : HO} (hp : H p = none) : Step Ω δ σ S H Ω δ σ S (upd H p o) :=
  Step.grow (Same.refl S) (Same.new hp) fun _ _ _ => rfl
theorem Good.notTch {p : Addr} (g : Good P w Ω δ σ S H) (hp : H p = none) : ¬ Tch Ω δ σ p := fun t => by
  rcases t with t | ⟨i, ⟨a, e1, e2⟩, e3⟩
  · obtain ⟨o, e⟩ := g.fok p t
    rw [hp] at e
    cases e
  · have q := g.slot i a e1
    rw [e3] at q
    cases a with
    | own ds =>
      obtain ⟨p', xs, q1, _, _, q4, _⟩ := q
      cases q1
      rw [hp] at q4
      cases q4
    | dic ds =>
      obtain ⟨p', xs, q1, _, _, q4, _⟩ := q
      cases q1
      rw [hp] at q4
      cases q4
    | un => cases e2
    | raw v => cases e2
    | dat d => cases e2
end

/-! ### the judgements -/
abbrev KR := Rs → Wd → List AS → Prop
def Post (P : Program) (w : World) (Ω : Wd) (δ : List AS) (σ : L2.St) (S H : Hp) (R : KR) (Q : VK) : Prop :=
  ∀ v r Ω' δ' S' H', R r Ω' δ' → Good P w Ω' δ' σ S' H' → Step Ω δ σ S H Ω' δ' σ S' H' → ResOk σ S' v r → Q v H'
/-- an expression: what comes, and what is then known -/
def EE (P : Program) (w : World) (te : TE) (Ω : Wd) (δ : List AS) (R : KR) : Prop :=
  ∀ σ S H, Good P w Ω δ σ S H → ∀ Q : VK, Post P w Ω δ σ S H R Q → te σ H Q
def ET (P : Program) (w : World) (tt : TT) (Ω : Wd) (δ : List AS) (R : Bool → Wd → List AS → Prop) : Prop :=
  ∀ σ S H, Good P w Ω δ σ S H → ∀ Q : Bool → Hp → Prop, (∀ b Ω' δ' S' H', R b Ω' δ' → Good P w Ω' δ' σ S' H' → Step Ω δ σ S H Ω' δ' σ S' H' → Q b H') → tt σ H Q
def EA (P : Program) (w : World) (ta : TA) (Ω : Wd) (δ : List AS) (R : List Rs → Wd → List AS → Prop) : Prop :=
  ∀ σ S H, Good P w Ω δ σ S H → ∀ Q : List V → Hp → Prop, (∀ vs rs Ω' δ' S' H', R rs Ω' δ' → Good P w Ω' δ' σ S' H' → Step Ω δ σ S H Ω' δ' σ S' H' → Paired (ResOk σ S') vs rs → Q vs H') → ta σ H Q
/-- a new list, ours still -/
def EN (P : Program) (w : World) (te : TE) (Ω : Wd) (δ : List AS) (R : List PyData → Wd → List AS → Prop) : Prop :=
  ∀ σ S H, Good P w Ω δ σ S H → ∀ Q : VK, (∀ p xs ds Ω' δ' S' H', R ds Ω' δ' → Good P w Ω' δ' σ S' H' → Step Ω δ σ S H Ω' δ' σ S' H' → H p = none → H' p = some (.lst xs) → S' p = none → ¬ Tch Ω' δ' σ p → DqAll S' xs ds → Q (.ref p) H') → te σ H Q
structure Po where
  nx : Wd → List AS → Prop
  rt : Rs → Wd → Prop
  bk : Wd → List AS → Prop := fun _ _ => False
  ct : Wd → List AS → Prop := fun _ _ => False
structure Fit (P : Program) (w : World) (Ω : Wd) (δ : List AS) (σ : L2.St) (S H : Hp) (p : Po) (D : Ends) : Prop where
  nx : ∀ Ω' δ' σ' S' H', p.nx Ω' δ' → Good P w Ω' δ' σ' S' H' → Step Ω δ σ S H Ω' δ' σ' S' H' → D.nx σ' H'
  rt : ∀ v r Ω' δ' σ' S' H', p.rt r Ω' → Good P w Ω' δ' σ' S' H' → Step Ω δ σ S H Ω' δ' σ' S' H' → ResOk σ' S' v r → D.rt v H'
  bk : ∀ Ω' δ' σ' S' H', p.bk Ω' δ' → Good P w Ω' δ' σ' S' H' → Step Ω δ σ S H Ω' δ' σ' S' H' → D.bk σ' H'
  ct : ∀ Ω' δ' σ' S' H', p.ct Ω' δ' → Good P w Ω' δ' σ' S' H' → Step Ω δ σ S H Ω' δ' σ' S' H' → D.ct σ' H'
def SE (P : Program) (w : World) (ts : TS) (Ω : Wd) (δ : List AS) (p : Po) : Prop :=
  ∀ σ S H, Good P w Ω δ σ S H → ∀ D : Ends, Fit P w Ω δ σ S H p D → ts D σ H
section
variable {Ω Ω1 Ω2 : Wd} {δ δ1 δ2 : List AS} {σ σ1 σ2 : L2.St} {S H S1 H1 S2 H2 : Hp}
theorem Post.step {R : KR} {Q : VK} (k : Post P w Ω δ σ S H R Q) (s : Step Ω δ σ S H Ω1 δ1 σ S1 H1) : Post P w Ω1 δ1 σ S1 H1 R Q :=
  fun v r Ω' δ' S' H' h g t o => k v r Ω' δ' S' H' h g (s.trans t) o
theorem Fit.step {p : Po} {D : Ends} (k : Fit P w Ω δ σ S H p D) (s : Step Ω δ σ S H Ω1 δ1 σ1 S1 H1) : Fit P w Ω1 δ1 σ1 S1 H1 p D :=
  ⟨fun _ _ _ _ _ h g t => k.nx _ _ _ _ _ h g (s.trans t), fun _ _ _ _ _ _ _ h g t o => k.rt _ _ _ _ _ _ _ h g (s.trans t) o, fun _ _ _ _ _ h g t => k.bk _ _ _ _ _ h g (s.trans t), fun _ _ _ _ _ h g t => k.ct _ _ _ _ _ h g (s.trans t)⟩
end
end D
set_option Elab.async false
set_option linter.all false
set_option maxRecDepth 100000
set_option maxHeartbeats 4000000
set_option autoImplicit false
namespace D
open PySem L2
section
variable {P : Program} {w : World} {K : PySem.W.Frag} {Ω : Wd} {δ : List AS} {R : KR} {ta tb te : TE} {tt tu : TT}

/-! ### expressions -/
theorem EE.imp {R' : KR} (h : EE P w te Ω δ R) (k : ∀ r Ω' δ', R r Ω' δ' → R' r Ω' δ') : EE P w te Ω δ R' := fun σ S H g Q q => h σ S H g Q fun v r Ω' δ' S' H' a => q v r Ω' δ' S' H' (k r Ω' δ' a)
theorem slot_at {σ : L2.St} {S H : Hp} {i : Nat} {a : AS} (g : Good P w Ω δ σ S H) (e : δ[i]? = some a) : SlotOk P w Ω.F S H a (σ[i]?.join) := g.slot i a e
theorem join_some {α : Type} {x : Option (Option α)} {v : α} (h : x.join = some v) : x = some (some v) := by
  cases x with
  | none => cases h
  | some y => cases y with
    | none => cases h
    | some z => cases h; rfl
theorem ee_dat {i : Nat} {d : PyData} (e : δ[i]? = some (.dat d)) (k : R (.dat d) Ω δ) : EE P w (tVar i) Ω δ R := fun σ S H g Q q => by
  obtain ⟨v, h1, h2⟩ := slot_at g e
  exact ⟨v, join_some h1, q v _ Ω δ S H k g Step.refl h2⟩
theorem ee_raw {i : Nat} {v : V} (e : δ[i]? = some (.raw v)) (k : R (.raw v) Ω δ) : EE P w (tVar i) Ω δ R := fun σ S H g Q q => by
  have h1 := slot_at g e
  exact ⟨v, join_some h1, q v _ Ω δ S H k g Step.refl rfl⟩
theorem ee_own {i : Nat} {ds : List PyData} (e : δ[i]? = some (.own ds)) (k : R (.own i) Ω δ) : EE P w (tVar i) Ω δ R := fun σ S H g Q q => by
  obtain ⟨p, xs, h1, _⟩ := slot_at g e
  exact ⟨.ref p, join_some h1, q _ _ Ω δ S H k g Step.refl (join_some h1)⟩
theorem ee_dic {i : Nat} {ds : List (NK × PyData)} (e : δ[i]? = some (.dic ds)) (k : R (.own i) Ω δ) : EE P w (tVar i) Ω δ R := fun σ S H g Q q => by
  obtain ⟨p, xs, h1, _⟩ := slot_at g e
  exact ⟨.ref p, join_some h1, q _ _ Ω δ S H k g Step.refl (join_some h1)⟩
theorem ee_int {i : Int} (k : R (.dat (.int i)) Ω δ) : EE P w (tC (.int i)) Ω δ R := fun σ S H g Q q => q _ _ Ω δ S H k g Step.refl (Dq.int i)
theorem ee_str {i : Str} (k : R (.dat (.str i)) Ω δ) : EE P w (tC (.str i)) Ω δ R := fun σ S H g Q q => q _ _ Ω δ S H k g Step.refl (Dq.str i)
theorem ee_bl {i : Bool} (k : R (.dat (.bool i)) Ω δ) : EE P w (tC (.bl i)) Ω δ R := fun σ S H g Q q => q _ _ Ω δ S H k g Step.refl (Dq.bl i)
theorem ee_non (k : R (.dat .none) Ω δ) : EE P w (tC .non) Ω δ R := fun σ S H g Q q => q _ _ Ω δ S H k g Step.refl Dq.non
theorem ee_cv {v : V} (k : R (.raw v) Ω δ) : EE P w (tC v) Ω δ R := fun σ S H g Q q => q _ _ Ω δ S H k g Step.refl rfl

def O2 (P : Program) (w : World) (r : R2) (r1 r2 : Rs) (Ω : Wd) (δ : List AS) (R : KR) : Prop :=
  ∀ σ S H, Good P w Ω δ σ S H → ∀ x y, ResOk σ S x r1 → ResOk σ S y r2 → ∀ Q : VK, Post P w Ω δ σ S H R Q → r x y H Q
theorem ee_op {r : R2} (h : EE P w ta Ω δ fun r1 Ω1 δ1 => EE P w tb Ω1 δ1 fun r2 Ω2 δ2 => O2 P w r r1 r2 Ω2 δ2 R) : EE P w (tOp r ta tb) Ω δ R := fun σ S H g Q q =>
  h σ S H g _ fun x r1 Ω1 δ1 S1 H1 h1 g1 s1 o1 => h1 σ S1 H1 g1 _ fun y r2 Ω2 δ2 S2 H2 h2 g2 s2 o2 =>
    h2 σ S2 H2 g2 x y (o1.mono s2.same) o2 Q (q.step (s1.trans s2))
theorem o2_I0 {f : Int → Int → V} {i j : Int} {d : PyData} (e : ∀ S, Dq S (f i j) d) (k : R (.dat d) Ω δ) : O2 P w (rI0 f) (.dat (.int i)) (.dat (.int j)) Ω δ R := fun σ S H g x y hx hy Q q => by
  rw [Dq.int_inv hx, Dq.int_inv hy]
  exact ⟨i, j, rfl, rfl, q _ _ Ω δ S H k g Step.refl (e S)⟩
theorem o2_I {C : Int → Int → Prop} {f : Int → Int → V} {i j : Int} {d : PyData} (e : ∀ S, Dq S (f i j) d) (c : C i j) (k : R (.dat d) Ω δ) : O2 P w (rI C f) (.dat (.int i)) (.dat (.int j)) Ω δ R := fun σ S H g x y hx hy Q q => by
  rw [Dq.int_inv hx, Dq.int_inv hy]
  exact ⟨i, j, rfl, rfl, c, q _ _ Ω δ S H k g Step.refl (e S)⟩
theorem o2_i0 {f : Int → Int → Int} {i j : Int} (k : R (.dat (.int (f i j))) Ω δ) : O2 P w (rI0 fun i j => .int (f i j)) (.dat (.int i)) (.dat (.int j)) Ω δ R := o2_I0 (fun _ => .int _) k
theorem o2_i {C : Int → Int → Prop} {f : Int → Int → Int} {i j : Int} (c : C i j) (k : R (.dat (.int (f i j))) Ω δ) : O2 P w (rI C fun i j => .int (f i j)) (.dat (.int i)) (.dat (.int j)) Ω δ R := o2_I (fun _ => .int _) c k
theorem o2_b0 {f : Int → Int → Bool} {i j : Int} (k : R (.dat (.bool (f i j))) Ω δ) : O2 P w (rI0 fun i j => .bl (f i j)) (.dat (.int i)) (.dat (.int j)) Ω δ R := o2_I0 (fun _ => .bl _) k
theorem atI_of {α : Type} {xs : List α} {j : Nat} {i : Int} {v : α} (e : i = (j : Int)) (h : xs[j]? = some v) : atI xs i = some v := by
  rw [e]
  exact atI_nat h
theorem o2_ixL {ds : List PyData} {i : Int} {j : Nat} {d : PyData} (e : i = (j : Int)) (h : ds[j]? = some d) (k : R (.dat d) Ω δ) : O2 P w (rIxL K) (.dat (.list ds)) (.dat (.int i)) Ω δ R := fun σ S H g x y hx hy Q q => by
  rw [Dq.int_inv hy]
  obtain ⟨a, xs, rfl, h1, h2⟩ := Dq.lst_inv hx
  obtain ⟨v, h3, h4⟩ := h2.get h
  exact ⟨a, xs, i, v, rfl, rfl, SqL.of (g.sub _ _ h1), atI_of e h3, q _ _ Ω δ S H k g Step.refl h4⟩
theorem o2_ixT {ds : List PyData} {i : Int} {j : Nat} {d : PyData} (e : i = (j : Int)) (h : ds[j]? = some d) (k : R (.dat d) Ω δ) : O2 P w (rIxT K) (.dat (.tuple ds)) (.dat (.int i)) Ω δ R := fun σ S H g x y hx hy Q q => by
  rw [Dq.int_inv hy]
  obtain ⟨a, xs, rfl, h1, h2⟩ := Dq.tup_inv hx
  obtain ⟨v, h3, h4⟩ := h2.get h
  exact ⟨a, xs, i, v, rfl, rfl, SqT.of (g.sub _ _ h1), atI_of e h3, q _ _ Ω δ S H k g Step.refl h4⟩
theorem own_at {σ : L2.St} {S H : Hp} {v : V} {n : Nat} {ds : List PyData} (g : Good P w Ω δ σ S H) (h : ResOk σ S v (.own n)) (e : δ[n]? = some (.own ds)) : ∃ p xs, v = .ref p ∧ ¬ Ω.F p ∧ S p = none ∧ H p = some (.lst xs) ∧ DqAll S xs ds := by
  obtain ⟨p, xs, h1, h2⟩ := slot_at g e
  rw [show σ[n]? = some (some v) from h] at h1
  cases h1
  exact ⟨p, xs, rfl, h2⟩
theorem o2_ixO {n : Nat} {ds : List PyData} {i : Int} {j : Nat} {d : PyData} (o : δ[n]? = some (.own ds)) (e : i = (j : Int)) (h : ds[j]? = some d) (k : R (.dat d) Ω δ) : O2 P w (rIxL K) (.own n) (.dat (.int i)) Ω δ R := fun σ S H g x y hx hy Q q => by
  rw [Dq.int_inv hy]
  obtain ⟨a, xs, rfl, _, _, h1, h2⟩ := own_at g hx o
  obtain ⟨v, h3, h4⟩ := h2.get h
  exact ⟨a, xs, i, v, rfl, rfl, SqL.of h1, atI_of e h3, q _ _ Ω δ S H k g Step.refl h4⟩
theorem o2_eqD {d e : PyData} (sd : SeqAt.shaped d = true) (se : SeqAt.shaped e = true) (k : R (.dat (.bool (PyData.eqv d e))) Ω δ) : O2 P w (rEqD K) (.dat d) (.dat e) Ω δ R := fun σ S H g x y hx hy Q q =>
  ⟨d, e, Dq.dp (Dq.mono g.sub hx), Dq.dp (Dq.mono g.sub hy), sd, se, q _ _ Ω δ S H k g Step.refl (.bl _)⟩
theorem o2_neD {d e : PyData} (sd : SeqAt.shaped d = true) (se : SeqAt.shaped e = true) (k : R (.dat (.bool (!PyData.eqv d e))) Ω δ) : O2 P w (rNeD K) (.dat d) (.dat e) Ω δ R := fun σ S H g x y hx hy Q q =>
  ⟨d, e, Dq.dp (Dq.mono g.sub hx), Dq.dp (Dq.mono g.sub hy), sd, se, q _ _ Ω δ S H k g Step.refl (.bl _)⟩
theorem shaped_int (i : Int) : SeqAt.shaped (.int i) = true := rfl
theorem o2_eqI {i j : Int} (k : R (.dat (.bool (decide (i = j)))) Ω δ) : O2 P w (rEqD K) (.dat (.int i)) (.dat (.int j)) Ω δ R := o2_eqD rfl rfl (by
  have e : PyData.eqv (.int i) (.int j) = decide (i = j) := by
    rw [PyData.eqv]
    by_cases h : i = j <;> simp [h]
  rw [e]
  exact k)
theorem o2_neI {i j : Int} (k : R (.dat (.bool (!decide (i = j)))) Ω δ) : O2 P w (rNeD K) (.dat (.int i)) (.dat (.int j)) Ω δ R := o2_neD rfl rfl (by
  have e : PyData.eqv (.int i) (.int j) = decide (i = j) := by
    rw [PyData.eqv]
    by_cases h : i = j <;> simp [h]
  rw [e]
  exact k)
theorem o2_inD {d : PyData} {ds : List PyData} (sd : SeqAt.shaped d = true) (se : SeqAt.shaped (.list ds) = true) (k : R (.dat (.bool (ds.any fun z => PyData.eqv z d))) Ω δ) : O2 P w (rInD K) (.dat d) (.dat (.list ds)) Ω δ R := fun σ S H g x y hx hy Q q =>
  ⟨d, ds, Dq.dp (Dq.mono g.sub hx), Dq.dp (Dq.mono g.sub hy), sd, se, q _ _ Ω δ S H k g Step.refl (.bl _)⟩
theorem o2_notInD {d : PyData} {ds : List PyData} (sd : SeqAt.shaped d = true) (se : SeqAt.shaped (.list ds) = true) (k : R (.dat (.bool (!ds.any fun z => PyData.eqv z d))) Ω δ) : O2 P w (rNotInD K) (.dat d) (.dat (.list ds)) Ω δ R := fun σ S H g x y hx hy Q q =>
  ⟨d, ds, Dq.dp (Dq.mono g.sub hx), Dq.dp (Dq.mono g.sub hy), sd, se, q _ _ Ω δ S H k g Step.refl (.bl _)⟩
theorem o2_notInO {d : PyData} {n : Nat} {ds : List PyData} (o : δ[n]? = some (.own ds)) (sd : SeqAt.shaped d = true) (se : SeqAt.shaped (.list ds) = true) (k : R (.dat (.bool (!ds.any fun z => PyData.eqv z d))) Ω δ) : O2 P w (rNotInD K) (.dat d) (.own n) Ω δ R := fun σ S H g x y hx hy Q q => by
  obtain ⟨a, xs, rfl, _, _, h1, h2⟩ := own_at g hy o
  exact ⟨d, ds, Dq.dp (Dq.mono g.sub hx), .lst (SqL.of h1) (DqAll.dp (DqAll.mono g.sub h2)), sd, se, q _ _ Ω δ S H k g Step.refl (.bl _)⟩

/-! ### arguments, tests -/
theorem ea_nil {RA : List Rs → Wd → List AS → Prop} (k : RA [] Ω δ) : EA P w tNil Ω δ RA := fun σ S H g Q q => q [] [] Ω δ S H k g Step.refl .nil
theorem resAll_mono {σ : L2.St} {S S1 : Hp} {vs : List V} {rs : List Rs} (h : Paired (ResOk σ S) vs rs) (e : Same S S1) : Paired (ResOk σ S1) vs rs := Paired.mapP h fun _ _ z => ResOk.mono z e
theorem ea_cons {tr : TA} {RA : List Rs → Wd → List AS → Prop} (h : EE P w te Ω δ fun r Ω1 δ1 => EA P w tr Ω1 δ1 fun rs Ω2 δ2 => RA (r :: rs) Ω2 δ2) : EA P w (tCons te tr) Ω δ RA := fun σ S H g Q q =>
  h σ S H g _ fun x r1 Ω1 δ1 S1 H1 h1 g1 s1 o1 => h1 σ S1 H1 g1 _ fun vs rs Ω2 δ2 S2 H2 h2 g2 s2 o2 =>
    q (x :: vs) (r1 :: rs) Ω2 δ2 S2 H2 h2 g2 (s1.trans s2) (.cons (o1.mono s2.same) o2)
theorem et_test {RT : Bool → Wd → List AS → Prop} (h : EE P w te Ω δ fun r Ω1 δ1 => ∃ b, r = .dat (.bool b) ∧ RT b Ω1 δ1) : ET P w (tTest te) Ω δ RT := fun σ S H g Q q =>
  h σ S H g _ fun x r1 Ω1 δ1 S1 H1 h1 g1 s1 o1 => by
    obtain ⟨b, rfl, h1⟩ := h1
    rw [Dq.bl_inv o1]
    exact ⟨b, rfl, q b Ω1 δ1 S1 H1 h1 g1 s1⟩
theorem et_B {RT : Bool → Wd → List AS → Prop} (h : EE P w te Ω δ fun r Ω1 δ1 => ∃ b, r = .dat (.bool b) ∧ RT b Ω1 δ1) : ET P w (tB te) Ω δ RT := fun σ S H g Q q =>
  h σ S H g _ fun x r1 Ω1 δ1 S1 H1 h1 g1 s1 o1 => by
    obtain ⟨b, rfl, h1⟩ := h1
    rw [Dq.bl_inv o1]
    exact ⟨b, rfl, q b Ω1 δ1 S1 H1 h1 g1 s1⟩
theorem et_and {RT : Bool → Wd → List AS → Prop} (h : ET P w tt Ω δ fun b Ω1 δ1 => (b = true → ET P w tu Ω1 δ1 RT) ∧ (b = false → RT false Ω1 δ1)) : ET P w (tAnd tt tu) Ω δ RT := fun σ S H g Q q =>
  h σ S H g _ fun b Ω1 δ1 S1 H1 h1 g1 s1 => by
    cases b with
    | true => exact h1.1 rfl σ S1 H1 g1 Q fun b Ω2 δ2 S2 H2 h2 g2 s2 => q b Ω2 δ2 S2 H2 h2 g2 (s1.trans s2)
    | false => exact q false Ω1 δ1 S1 H1 (h1.2 rfl) g1 s1
theorem et_or {RT : Bool → Wd → List AS → Prop} (h : ET P w tt Ω δ fun b Ω1 δ1 => (b = true → RT true Ω1 δ1) ∧ (b = false → ET P w tu Ω1 δ1 RT)) : ET P w (tOr tt tu) Ω δ RT := fun σ S H g Q q =>
  h σ S H g _ fun b Ω1 δ1 S1 H1 h1 g1 s1 => by
    cases b with
    | false => exact h1.2 rfl σ S1 H1 g1 Q fun b Ω2 δ2 S2 H2 h2 g2 s2 => q b Ω2 δ2 S2 H2 h2 g2 (s1.trans s2)
    | true => exact q true Ω1 δ1 S1 H1 (h1.1 rfl) g1 s1
theorem et_not {RT : Bool → Wd → List AS → Prop} (h : ET P w tt Ω δ fun b Ω1 δ1 => RT (!b) Ω1 δ1) : ET P w (tNot tt) Ω δ RT := fun σ S H g Q q =>
  h σ S H g _ fun b Ω1 δ1 S1 H1 h1 g1 s1 => q (!b) Ω1 δ1 S1 H1 h1 g1 s1
theorem et_yes {RT : Bool → Wd → List AS → Prop} (h : RT true Ω δ) : ET P w tYes Ω δ RT := fun σ S H g Q q => q true Ω δ S H h g Step.refl
theorem ee_andV (h : EE P w ta Ω δ fun r Ω1 δ1 => ∃ b, r = .dat (.bool b) ∧ (b = true → EE P w tb Ω1 δ1 R) ∧ (b = false → R (.dat (.bool false)) Ω1 δ1)) : EE P w (tAndV ta tb) Ω δ R := fun σ S H g Q q =>
  h σ S H g _ fun x r1 Ω1 δ1 S1 H1 h1 g1 s1 o1 => by
    obtain ⟨b, rfl, h2, h3⟩ := h1
    rw [Dq.bl_inv o1]
    refine ⟨b, rfl, ?_⟩
    cases b with
    | true => exact h2 rfl σ S1 H1 g1 Q (q.step s1)
    | false => exact q _ _ Ω1 δ1 S1 H1 (h3 rfl) g1 s1 (.bl false)
theorem ee_orV (h : EE P w ta Ω δ fun r Ω1 δ1 => ∃ b, r = .dat (.bool b) ∧ (b = true → R (.dat (.bool true)) Ω1 δ1) ∧ (b = false → EE P w tb Ω1 δ1 R)) : EE P w (tOrV ta tb) Ω δ R := fun σ S H g Q q =>
  h σ S H g _ fun x r1 Ω1 δ1 S1 H1 h1 g1 s1 o1 => by
    obtain ⟨b, rfl, h2, h3⟩ := h1
    rw [Dq.bl_inv o1]
    refine ⟨b, rfl, ?_⟩
    cases b with
    | false => exact h3 rfl σ S1 H1 g1 Q (q.step s1)
    | true => exact q _ _ Ω1 δ1 S1 H1 (h2 rfl) g1 s1 (.bl true)

/-! ### displays, new lists -/
theorem dats_all {σ : L2.St} {S : Hp} : ∀ {ds : List PyData} {vs : List V}, Paired (ResOk σ S) vs (ds.map Rs.dat) → DqAll S vs ds
  | [], _, h => by
    cases h
    exact .nil
  | d :: ds, _, h => by
    rw [List.map_cons] at h
    cases h with
    | cons h t => exact .cons h (dats_all t)
theorem ee_tup {ta : TA} (h : EA P w ta Ω δ fun rs Ω1 δ1 => ∃ ds, rs = ds.map Rs.dat ∧ ds.length ≤ sizeLine ∧ R (.dat (.tuple ds)) Ω1 δ1) : EE P w (tTup ta) Ω δ R := fun σ S H g Q q =>
  h σ S H g _ fun vs rs Ω1 δ1 S1 H1 h1 g1 s1 o1 => by
    obtain ⟨ds, rfl, hl, h1⟩ := h1
    have a := dats_all o1
    refine ⟨by rw [a.length]; exact hl, fun p hp => ?_⟩
    exact q _ _ Ω1 δ1 _ _ h1 (g1.new hp) (s1.trans (Step.new g1.sub hp)) (.tup upd_same (a.mono (Same.new (g1.sub.free hp))))
theorem Good.freeze {σ : L2.St} {S H : Hp} {p : Addr} {o : HO} (g : Good P w Ω δ σ S H) (hp : H p = some o) (hS : S p = none) (hT : ¬ Tch Ω δ σ p) : Good P w Ω δ σ (upd S p o) H where
  sub := fun a u e => by
    by_cases q : a = p
    · subst q
      rw [upd_same] at e
      exact hp.trans e
    · rw [upd_ne q] at e
      exact g.sub a u e
  wld := Ω.cl S H _ H g.wld (Same.new hS) fun q hq => ⟨upd_ne fun e => hT (.inl (e ▸ hq)), rfl⟩
  fok := g.fok
  len := g.len
  slot := fun i a e => by
    have q := g.slot i a e
    cases a with
    | un => trivial
    | raw v => exact q
    | dat d => obtain ⟨v, q1, q2⟩ := q; exact ⟨v, q1, Dq.mono (Same.new hS) q2⟩
    | own ds =>
      obtain ⟨b, xs, q1, q2, q3, q4, q5⟩ := q
      have hb : b ≠ p := fun z => hT (.inr ⟨i, ⟨_, e, rfl⟩, by rw [← z]; exact join_some q1⟩)
      exact ⟨b, xs, q1, q2, (upd_ne hb).trans q3, q4, DqAll.mono (Same.new hS) q5⟩
    | dic ds =>
      obtain ⟨b, xs, q1, q2, q3, q4, q5⟩ := q
      have hb : b ≠ p := fun z => hT (.inr ⟨i, ⟨_, e, rfl⟩, by rw [← z]; exact join_some q1⟩)
      exact ⟨b, xs, q1, q2, (upd_ne hb).trans q3, q4, EntOk.mono q5 (Same.new hS)⟩
  dist := g.dist
/-- a new list, to be data -/
theorem ee_new (h : EN P w te Ω δ fun ds Ω1 δ1 => R (.dat (.list ds)) Ω1 δ1) : EE P w te Ω δ R := fun σ S H g Q q =>
  h σ S H g Q fun p xs ds Ω1 δ1 S1 H1 h1 g1 s1 hp hp1 hS hT ha => by
    have e : Same S1 (upd S1 p (.lst xs)) := Same.new hS
    refine q _ _ Ω1 δ1 (upd S1 p (.lst xs)) H1 h1 (g1.freeze hp1 hS hT) ⟨s1.same.trans e, fun b o hb n => ?_, s1.dom⟩ (.lst upd_same (ha.mono e))
    obtain ⟨k1, k2, k3⟩ := s1.keep b o hb n
    exact ⟨k1, (upd_ne (ne_of_none hb hp)).trans k2, k3⟩
/-- a rule that ends by laying a new list -/
theorem en_laid {σ : L2.St} {S H S1 H1 : Hp} {Ω1 : Wd} {δ1 : List AS} {RN : List PyData → Wd → List AS → Prop} {Q : VK}
    (q : ∀ p xs ds Ω' δ' S' H', RN ds Ω' δ' → Good P w Ω' δ' σ S' H' → Step Ω δ σ S H Ω' δ' σ S' H' → H p = none → H' p = some (.lst xs) → S' p = none → ¬ Tch Ω' δ' σ p → DqAll S' xs ds → Q (.ref p) H')
    (g : Good P w Ω δ σ S H) (g1 : Good P w Ω1 δ1 σ S1 H1) (s1 : Step Ω δ σ S H Ω1 δ1 σ S1 H1) {xs : List V} {ds : List PyData} (ha : DqAll S1 xs ds) (h : RN ds Ω1 δ1) : ∀ p, H1 p = none → Q (.ref p) (upd H1 p (.lst xs)) := fun p hp => by
  have hH : H p = none := s1.back hp
  exact q p xs ds Ω1 δ1 S1 _ h (g1.new' hp) (s1.trans (Step.new' hp)) hH upd_same (g1.sub.free hp) (g1.notTch hp) ha
end
end D
set_option Elab.async false
set_option linter.all false
set_option maxRecDepth 100000
set_option maxHeartbeats 4000000
set_option autoImplicit false
namespace D
open PySem L2
section
variable {P : Program} {w : World} {K : PySem.W.Frag} {Ω : Wd} {δ : List AS} {R : KR} {RN : List PyData → Wd → List AS → Prop} {ta tb te : TE} {tt tu : TT} {σ : L2.St} {S H S1 H1 : Hp} {p : Po}
abbrev PostN (P : Program) (w : World) (Ω : Wd) (δ : List AS) (σ : L2.St) (S H : Hp) (RN : List PyData → Wd → List AS → Prop) (Q : VK) : Prop :=
  ∀ a xs ds Ω' δ' S' H', RN ds Ω' δ' → Good P w Ω' δ' σ S' H' → Step Ω δ σ S H Ω' δ' σ S' H' → H a = none → H' a = some (.lst xs) → S' a = none → ¬ Tch Ω' δ' σ a → DqAll S' xs ds → Q (.ref a) H'
theorem PostN.step {Ω1 : Wd} {δ1 : List AS} {Q : VK} (k : PostN P w Ω δ σ S H RN Q) (s : Step Ω δ σ S H Ω1 δ1 σ S1 H1) : PostN P w Ω1 δ1 σ S1 H1 RN Q :=
  fun a xs ds Ω' δ' S' H' h g t n m => k a xs ds Ω' δ' S' H' h g (s.trans t) (s.back n) m
theorem en_lay {Q : VK} (q : PostN P w Ω δ σ S H RN Q) (g : Good P w Ω δ σ S H) {xs : List V} {ds : List PyData} (ha : DqAll S xs ds) (h : RN ds Ω δ) : ∀ a, H a = none → Q (.ref a) (upd H a (.lst xs)) :=
  en_laid q g g Step.refl ha h
theorem en_lst {ta : TA} (h : EA P w ta Ω δ fun rs Ω1 δ1 => ∃ ds, rs = ds.map Rs.dat ∧ ds.length ≤ sizeLine ∧ RN ds Ω1 δ1) : EN P w (tLst ta) Ω δ RN := fun σ S H g Q q =>
  h σ S H g _ fun vs rs Ω1 δ1 S1 H1 h1 g1 s1 o1 => by
    obtain ⟨ds, rfl, hl, h1⟩ := h1
    have a := dats_all o1
    exact ⟨by rw [a.length]; exact hl, en_lay (PostN.step q s1) g1 a h1⟩
/-- what a value that is a list holds: data, or one of ours -/
def LstOf (δ : List AS) : Rs → List PyData → Prop
  | .dat d, ds => d = .list ds
  | .own i, ds => δ[i]? = some (.own ds)
  | .raw _, _ => False
theorem lst_at {v : V} {r : Rs} {ds : List PyData} (g : Good P w Ω δ σ S H) (h : ResOk σ S v r) (e : LstOf δ r ds) : ∃ a xs, v = .ref a ∧ H a = some (.lst xs) ∧ DqAll S xs ds := by
  cases r with
  | dat d =>
    cases (show d = .list ds from e)
    obtain ⟨a, xs, rfl, h1, h2⟩ := Dq.lst_inv h
    exact ⟨a, xs, rfl, g.sub _ _ h1, h2⟩
  | raw v => exact e.elim
  | own i =>
    obtain ⟨a, xs, rfl, _, _, h1, h2⟩ := own_at g h e
    exact ⟨a, xs, rfl, h1, h2⟩
theorem en_cat (h : EE P w ta Ω δ fun r1 Ω1 δ1 => EE P w tb Ω1 δ1 fun r2 Ω2 δ2 => ∃ ds es, LstOf δ2 r1 ds ∧ LstOf δ2 r2 es ∧ ds.length + es.length ≤ sizeLine ∧ RN (ds ++ es) Ω2 δ2) : EN P w (tOp rCat ta tb) Ω δ RN := fun σ S H g Q q =>
  h σ S H g _ fun x r1 Ω1 δ1 S1 H1 h1 g1 s1 o1 => h1 σ S1 H1 g1 _ fun y r2 Ω2 δ2 S2 H2 h2 g2 s2 o2 => by
    obtain ⟨ds, es, e1, e2, hl, h2⟩ := h2
    obtain ⟨a, xs, rfl, k1, k2⟩ := lst_at g2 (o1.mono s2.same) e1
    obtain ⟨b, zs, rfl, k3, k4⟩ := lst_at g2 o2 e2
    exact ⟨a, b, xs, zs, rfl, rfl, k1, k3, by rw [k2.length, k4.length]; exact hl, en_lay (PostN.step (PostN.step q s1) s2) g2 (k2.append k4) h2⟩

/-! ### slices -/
def EO (P : Program) (w : World) (to : TO) (Ω : Wd) (δ : List AS) (R : Option Int → Wd → List AS → Prop) : Prop :=
  ∀ σ S H, Good P w Ω δ σ S H → ∀ Q : Option Int → Hp → Prop, (∀ b Ω' δ' S' H', R b Ω' δ' → Good P w Ω' δ' σ S' H' → Step Ω δ σ S H Ω' δ' σ S' H' → Q b H') → to σ H Q
theorem eo_none {RO : Option Int → Wd → List AS → Prop} (h : RO none Ω δ) : EO P w tNoPart Ω δ RO := fun σ S H g Q q => q none Ω δ S H h g Step.refl
theorem eo_some {RO : Option Int → Wd → List AS → Prop} (h : EE P w te Ω δ fun r Ω1 δ1 => ∃ i, r = .dat (.int i) ∧ RO (some i) Ω1 δ1) : EO P w (tPart te) Ω δ RO := fun σ S H g Q q =>
  h σ S H g _ fun x r1 Ω1 δ1 S1 H1 h1 g1 s1 o1 => by
    obtain ⟨i, rfl, h1⟩ := h1
    rw [Dq.int_inv o1]
    exact ⟨i, rfl, q _ _ _ _ _ h1 g1 s1⟩
def cutD (ds : List PyData) (lo hi : Option Int) : List PyData := (ds.drop (HT.sIx ds.length 0 lo)).take (HT.sIx ds.length ds.length hi - HT.sIx ds.length 0 lo)
theorem DqAll.cut {vs : List V} {ds : List PyData} (h : DqAll S vs ds) (lo hi : Option Int) : DqAll S (cutV vs lo hi) (cutD ds lo hi) := by
  unfold cutV cutD
  rw [h.length]
  exact (h.drop _).take _
theorem en_sl {tl th : TO} (h : EE P w te Ω δ fun r Ω1 δ1 => EO P w tl Ω1 δ1 fun lo Ω2 δ2 => EO P w th Ω2 δ2 fun hi Ω3 δ3 => ∃ ds, LstOf δ3 r ds ∧ RN (cutD ds lo hi) Ω3 δ3) : EN P w (tSl (rSlL K) te tl th) Ω δ RN := fun σ S H g Q q =>
  h σ S H g _ fun x r1 Ω1 δ1 S1 H1 h1 g1 s1 o1 => h1 σ S1 H1 g1 _ fun lo Ω2 δ2 S2 H2 h2 g2 s2 => h2 σ S2 H2 g2 _ fun hi Ω3 δ3 S3 H3 h3 g3 s3 => by
    obtain ⟨ds, e, h3⟩ := h3
    obtain ⟨a, xs, rfl, k1, k2⟩ := lst_at g3 (o1.mono (s2.trans s3).same) e
    exact ⟨a, xs, rfl, SqL.of k1, en_lay (PostN.step (PostN.step (PostN.step q s1) s2) s3) g3 (k2.cut lo hi) h3⟩

/-! ### built-ins by name -/
def CB (P : Program) (w : World) (r : List V → Hp → VK → Prop) (rs : List Rs) (Ω : Wd) (δ : List AS) (R : KR) : Prop :=
  ∀ σ S H, Good P w Ω δ σ S H → ∀ vs, Paired (ResOk σ S) vs rs → ∀ Q : VK, Post P w Ω δ σ S H R Q → r vs H Q
def CN (P : Program) (w : World) (r : List V → Hp → VK → Prop) (rs : List Rs) (Ω : Wd) (δ : List AS) (RN : List PyData → Wd → List AS → Prop) : Prop :=
  ∀ σ S H, Good P w Ω δ σ S H → ∀ vs, Paired (ResOk σ S) vs rs → ∀ Q : VK, PostN P w Ω δ σ S H RN Q → r vs H Q
theorem ee_cb {ta : TA} {r : List V → Hp → VK → Prop} (h : EA P w ta Ω δ fun rs Ω1 δ1 => CB P w r rs Ω1 δ1 R) : EE P w (tCB r ta) Ω δ R := fun σ S H g Q q =>
  h σ S H g _ fun vs rs Ω1 δ1 S1 H1 h1 g1 s1 o1 => h1 σ S1 H1 g1 vs o1 Q (q.step s1)
theorem en_cb {ta : TA} {r : List V → Hp → VK → Prop} (h : EA P w ta Ω δ fun rs Ω1 δ1 => CN P w r rs Ω1 δ1 RN) : EN P w (tCB r ta) Ω δ RN := fun σ S H g Q q =>
  h σ S H g _ fun vs rs Ω1 δ1 S1 H1 h1 g1 s1 o1 => h1 σ S1 H1 g1 vs o1 Q (PostN.step q s1)
theorem one_of {vs : List V} {r : Rs} (h : Paired (ResOk σ S) vs [r]) : ∃ v, vs = [v] ∧ ResOk σ S v r := by
  cases h with
  | cons h t =>
    cases t
    exact ⟨_, rfl, h⟩
theorem two_of {vs : List V} {r q : Rs} (h : Paired (ResOk σ S) vs [r, q]) : ∃ v u, vs = [v, u] ∧ ResOk σ S v r ∧ ResOk σ S u q := by
  cases h with
  | cons h t =>
    obtain ⟨u, rfl, h2⟩ := one_of t
    exact ⟨_, u, rfl, h, h2⟩
def rLen2 (K : PySem.W.Frag) : List V → Hp → VK → Prop := fun xs H Q => ∃ p ys, xs = [.ref p] ∧ (SqL K H p ys ∨ SqT K H p ys) ∧ Q (.int ys.length) H
theorem call_len2 {X : Cx} : CallR X (.builtin "len") (rLen2 X.K) := call_len_seq
/-- a list or a tuple -/
def SeqOf (δ : List AS) (r : Rs) (ds : List PyData) : Prop := LstOf δ r ds ∨ r = .dat (.tuple ds)
theorem seq_at {v : V} {r : Rs} {ds : List PyData} (g : Good P w Ω δ σ S H) (h : ResOk σ S v r) (e : SeqOf δ r ds) : ∃ a xs, v = .ref a ∧ (H a = some (.lst xs) ∨ H a = some (.tup xs)) ∧ DqAll S xs ds := by
  rcases e with e | rfl
  · obtain ⟨a, xs, rfl, h1, h2⟩ := lst_at g h e
    exact ⟨a, xs, rfl, .inl h1, h2⟩
  · obtain ⟨a, xs, rfl, h1, h2⟩ := Dq.tup_inv h
    exact ⟨a, xs, rfl, .inr (g.sub _ _ h1), h2⟩
theorem sq_of {a : Addr} {xs : List V} (h : H a = some (.lst xs) ∨ H a = some (.tup xs)) : SqL K H a xs ∨ SqT K H a xs := h.imp SqL.of SqT.of
theorem cb_len {r : Rs} {ds : List PyData} (e : SeqOf δ r ds) (k : R (.dat (.int (ds.length : Int))) Ω δ) : CB P w (rLen2 K) [r] Ω δ R := fun σ S H g vs o Q q => by
  obtain ⟨v, rfl, o'⟩ := one_of o
  obtain ⟨a, xs, rfl, h1, h2⟩ := seq_at g o' e
  refine ⟨a, xs, rfl, sq_of h1, ?_⟩
  rw [h2.length]
  exact q _ _ Ω δ S H k g Step.refl (.int _)
def rMin2 : List V → Hp → VK → Prop := fun xs H Q => ∃ i j, xs = [.int i, .int j] ∧ Q (.int (if j < i then j else i)) H
theorem call_min2' {X : Cx} (hc : X.calm = true) : CallR X (.builtin "min") rMin2 := call_min2 hc
theorem cb_min2 {i j : Int} (k : R (.dat (.int (if j < i then j else i))) Ω δ) : CB P w rMin2 [.dat (.int i), .dat (.int j)] Ω δ R := fun σ S H g vs o Q q => by
  obtain ⟨v, u, rfl, o1, o2⟩ := two_of o
  rw [Dq.int_inv o1, Dq.int_inv o2]
  exact ⟨i, j, rfl, q _ _ Ω δ S H k g Step.refl (.int _)⟩
def rAbs : List V → Hp → VK → Prop := fun xs H Q => ∃ i, xs = [.int i] ∧ Q (.int (if i < 0 then -i else i)) H
theorem call_abs' {X : Cx} : CallR X (.builtin "abs") rAbs := call_abs
theorem cb_abs {i : Int} (k : R (.dat (.int (if i < 0 then -i else i))) Ω δ) : CB P w rAbs [.dat (.int i)] Ω δ R := fun σ S H g vs o Q q => by
  obtain ⟨v, rfl, o'⟩ := one_of o
  rw [Dq.int_inv o']
  exact ⟨i, rfl, q _ _ Ω δ S H k g Step.refl (.int _)⟩
def rInt1 : List V → Hp → VK → Prop := fun xs H Q => (∃ i, xs = [.int i] ∧ Q (.int i) H) ∨ ∃ k, xs = [.bl k] ∧ Q (.int (if k then 1 else 0)) H
theorem call_int1' {X : Cx} : CallR X (.type "int") rInt1 := call_int1
theorem cb_int1 {b : Bool} (k : R (.dat (.int (if b then 1 else 0))) Ω δ) : CB P w rInt1 [.dat (.bool b)] Ω δ R := fun σ S H g vs o Q q => by
  obtain ⟨v, rfl, o'⟩ := one_of o
  rw [Dq.bl_inv o']
  exact .inr ⟨b, rfl, q _ _ Ω δ S H k g Step.refl (.int _)⟩
def rListOf (K : PySem.W.Frag) : List V → Hp → VK → Prop := fun xs H Q => ∃ p ys, xs = [.ref p] ∧ (SqL K H p ys ∨ SqT K H p ys) ∧ ∀ l, H l = none → Q (.ref l) (upd H l (.lst ys))
theorem call_listOf {X : Cx} : CallR X (.type "list") (rListOf X.K) := call_list_of
theorem cn_list {r : Rs} {ds : List PyData} (e : SeqOf δ r ds) (k : RN ds Ω δ) : CN P w (rListOf K) [r] Ω δ RN := fun σ S H g vs o Q q => by
  obtain ⟨v, rfl, o'⟩ := one_of o
  obtain ⟨a, xs, rfl, h1, h2⟩ := seq_at g o' e
  exact ⟨a, xs, rfl, sq_of h1, en_lay q g h2 k⟩
def rTupOf (K : PySem.W.Frag) : List V → Hp → VK → Prop := fun xs H Q => ∃ p ys, xs = [.ref p] ∧ ((SqL K H p ys ∧ ∀ l, H l = none → Q (.ref l) (upd H l (.tup ys))) ∨ (SqT K H p ys ∧ Q (.ref p) H))
theorem call_tupOf {X : Cx} : CallR X (.type "tuple") (rTupOf X.K) := call_tuple_of
theorem cb_tuple {r : Rs} {ds : List PyData} (e : SeqOf δ r ds) (k : R (.dat (.tuple ds)) Ω δ) : CB P w (rTupOf K) [r] Ω δ R := fun σ S H g vs o Q q => by
  obtain ⟨v, rfl, o'⟩ := one_of o
  rcases e with e | rfl
  · obtain ⟨a, xs, rfl, h1, h2⟩ := lst_at g o' e
    refine ⟨a, xs, rfl, .inl ⟨SqL.of h1, fun l hl => ?_⟩⟩
    exact q _ _ Ω δ _ _ k (g.new hl) (Step.new g.sub hl) (.tup upd_same (h2.mono (Same.new (g.sub.free hl))))
  · obtain ⟨a, xs, rfl, h1, h2⟩ := Dq.tup_inv o'
    exact ⟨a, xs, rfl, .inr ⟨SqT.of (g.sub _ _ h1), q _ _ Ω δ S H k g Step.refl o'⟩⟩

/-! ### sources of loops -/
/-- J walks over ds, whatever else goes on -/
structure WalkD (P : Program) (w : World) (J : It) (ds : List PyData) (S : Hp) : Prop where
  go : ∀ Ω δ σ S1 H1, Good P w Ω δ σ S1 H1 → Same S S1 → ∀ i, i < ds.length → J.go i H1 ∧ ∀ x H2, J.yld i H1 x H2 → ∃ S2 d, Good P w Ω δ σ S2 H2 ∧ Step Ω δ σ S1 H1 Ω δ σ S2 H2 ∧ ds[i]? = some d ∧ Dq S2 x d
  stop : ∀ Ω δ σ S1 H1, Good P w Ω δ σ S1 H1 → Same S S1 → J.stop ds.length H1
def ES (P : Program) (w : World) (wi : TI) (Ω : Wd) (δ : List AS) (RS : List PyData → Wd → List AS → Prop) : Prop :=
  ∀ σ S H, Good P w Ω δ σ S H → ∀ Q : It → Hp → Prop, (∀ J ds Ω' δ' S' H', RS ds Ω' δ' → Good P w Ω' δ' σ S' H' → Step Ω δ σ S H Ω' δ' σ S' H' → WalkD P w J ds S' → Q J H') → wi σ H Q
theorem walkD_list {a : Addr} {xs : List V} {ds : List PyData} (h : S a = some (.lst xs)) (hd : DqAll S xs ds) : WalkD P w (Itl K a) ds S where
  go := fun Ω δ σ S1 H1 g e i hi => by
    have q : SqL K H1 a xs := SqL.of (g.sub _ _ (e _ _ h))
    have hl := hd.length
    refine ⟨walk_list.goes i H1 (by omega) q, fun x H2 y => ?_⟩
    obtain ⟨rfl, hx⟩ := walk_list.yields i H1 x H2 (by omega) q y
    obtain ⟨d, h1, h2⟩ := hd.get' hx
    exact ⟨S1, d, g, Step.refl, h1, h2.mono e⟩
  stop := fun Ω δ σ S1 H1 g e => by
    have q : SqL K H1 a xs := SqL.of (g.sub _ _ (e _ _ h))
    rw [← hd.length]
    exact walk_list.stops H1 q
theorem walkD_tup {a : Addr} {xs : List V} {ds : List PyData} (h : S a = some (.tup xs)) (hd : DqAll S xs ds) : WalkD P w (Itt K a) ds S where
  go := fun Ω δ σ S1 H1 g e i hi => by
    have q : SqT K H1 a xs := SqT.of (g.sub _ _ (e _ _ h))
    have hl := hd.length
    refine ⟨walk_tup.goes i H1 (by omega) q, fun x H2 y => ?_⟩
    obtain ⟨rfl, hx⟩ := walk_tup.yields i H1 x H2 (by omega) q y
    obtain ⟨d, h1, h2⟩ := hd.get' hx
    exact ⟨S1, d, g, Step.refl, h1, h2.mono e⟩
  stop := fun Ω δ σ S1 H1 g e => by
    have q : SqT K H1 a xs := SqT.of (g.sub _ _ (e _ _ h))
    rw [← hd.length]
    exact walk_tup.stops H1 q
def rangeD (lo : Int) (n : Nat) : List PyData := (List.range n).map fun (i : Nat) => PyData.int (lo + (i : Int))
theorem rangeD_get {lo : Int} {n i : Nat} (h : i < n) : (rangeD lo n)[i]? = some (.int (lo + (i : Int))) := by
  unfold rangeD
  rw [List.getElem?_map, List.getElem?_range h]
  rfl
theorem rangeD_len {lo : Int} {n : Nat} : (rangeD lo n).length = n := by
  unfold rangeD
  rw [List.length_map, List.length_range]
theorem walkD_range {lo : Int} {n : Nat} : WalkD P w (Itr lo n) (rangeD lo n) S where
  go := fun Ω δ σ S1 H1 g e i hi => by
    rw [rangeD_len] at hi
    refine ⟨hi, fun x H2 y => ?_⟩
    obtain ⟨rfl, rfl⟩ := y
    exact ⟨S1, _, g, Step.refl, rangeD_get hi, .int _⟩
  stop := fun Ω δ σ S1 H1 g e => by
    rw [rangeD_len]
    exact Nat.le_refl n
/-- enumerate: new pairs -/
def enumD (ds : List PyData) : List PyData := (List.range ds.length).zipWith (fun (i : Nat) d => PyData.tuple [.int i, d]) ds
theorem enumD_len {ds : List PyData} : (enumD ds).length = ds.length := by
  unfold enumD
  rw [List.length_zipWith, List.length_range]
  omega
theorem enumD_get {ds : List PyData} {i : Nat} {d : PyData} (h : ds[i]? = some d) : (enumD ds)[i]? = some (.tuple [.int i, d]) := by
  have hi := (List.getElem?_eq_some_iff.mp h).1
  unfold enumD
  rw [List.getElem?_zipWith, List.getElem?_range hi, h]
theorem walkD_enum {a : Addr} {xs : List V} {ds : List PyData} (h : S a = some (.lst xs)) (hd : DqAll S xs ds) : WalkD P w (Ite K a) (enumD ds) S where
  go := fun Ω δ σ S1 H1 g e i hi => by
    rw [enumD_len] at hi
    have q : SqL K H1 a xs := SqL.of (g.sub _ _ (e _ _ h))
    have hl := hd.length
    refine ⟨walk_enum.goes i H1 (by omega) q, fun x H2 y => ?_⟩
    obtain ⟨T, u, z, rfl, hT, rfl, hu, hz⟩ := walk_enum.yields i H1 x H2 (by omega) q y
    cases hu
    obtain ⟨d, h1, h2⟩ := hd.get' hz
    exact ⟨_, _, g.new hT, Step.new g.sub hT, enumD_get h1, .tup upd_same (.cons (.int _) (.cons ((h2.mono e).mono (Same.new (g.sub.free hT))) .nil))⟩
  stop := fun Ω δ σ S1 H1 g e => by
    have q : SqL K H1 a xs := SqL.of (g.sub _ _ (e _ _ h))
    rw [enumD_len, ← hd.length]
    exact walk_enum.stops H1 q
theorem walkD_rev {a : Addr} {xs : List V} {ds : List PyData} (h : S a = some (.lst xs)) (hd : DqAll S xs ds) : WalkD P w (Itv K a xs.length) ds.reverse S where
  go := fun Ω δ σ S1 H1 g e i hi => by
    rw [List.length_reverse] at hi
    have q : SqL K H1 a xs := SqL.of (g.sub _ _ (e _ _ h))
    have hl := hd.length
    refine ⟨walk_rev.goes i H1 (by omega) q, fun x H2 y => ?_⟩
    obtain ⟨rfl, hx⟩ := walk_rev.yields i H1 x H2 (by omega) q y
    obtain ⟨d, h1, h2⟩ := hd.get' hx
    refine ⟨S1, d, g, Step.refl, ?_, h2.mono e⟩
    rw [List.getElem?_reverse hi, ← hl]
    exact h1
  stop := fun Ω δ σ S1 H1 g e => by
    have q : SqL K H1 a xs := SqL.of (g.sub _ _ (e _ _ h))
    rw [List.length_reverse, ← hd.length]
    exact walk_rev.stops H1 q
variable {RS : List PyData → Wd → List AS → Prop}
theorem es_list (h : EE P w te Ω δ fun r Ω1 δ1 => ∃ ds, r = .dat (.list ds) ∧ RS ds Ω1 δ1) : ES P w (iList K te) Ω δ RS := fun σ S H g Q q =>
  h σ S H g _ fun x r1 Ω1 δ1 S1 H1 h1 g1 s1 o1 => by
    obtain ⟨ds, rfl, h1⟩ := h1
    obtain ⟨a, xs, rfl, k1, k2⟩ := Dq.lst_inv o1
    exact ⟨a, rfl, ⟨xs, SqL.of (g1.sub _ _ k1)⟩, q _ _ _ _ _ _ h1 g1 s1 (walkD_list k1 k2)⟩
theorem es_tup (h : EE P w te Ω δ fun r Ω1 δ1 => ∃ ds, r = .dat (.tuple ds) ∧ RS ds Ω1 δ1) : ES P w (iTup K te) Ω δ RS := fun σ S H g Q q =>
  h σ S H g _ fun x r1 Ω1 δ1 S1 H1 h1 g1 s1 o1 => by
    obtain ⟨ds, rfl, h1⟩ := h1
    obtain ⟨a, xs, rfl, k1, k2⟩ := Dq.tup_inv o1
    exact ⟨a, rfl, ⟨xs, SqT.of (g1.sub _ _ k1)⟩, q _ _ _ _ _ _ h1 g1 s1 (walkD_tup k1 k2)⟩
theorem es_range1 {ta : TA} (h : EA P w ta Ω δ fun rs Ω1 δ1 => ∃ n : Nat, rs = [.dat (.int n)] ∧ n ≤ 1000000 ∧ RS (rangeD 0 n) Ω1 δ1) : ES P w (iRng1 ta) Ω δ RS := fun σ S H g Q q =>
  h σ S H g _ fun vs r1 Ω1 δ1 S1 H1 h1 g1 s1 o1 => by
    obtain ⟨n, rfl, hn, h1⟩ := h1
    obtain ⟨v, rfl, o⟩ := one_of o1
    rw [Dq.int_inv o]
    exact ⟨n, rfl, by omega, by omega, q _ _ _ _ _ _ h1 g1 s1 walkD_range⟩
theorem es_range2 {ta : TA} (h : EA P w ta Ω δ fun rs Ω1 δ1 => ∃ lo n : Nat, rs = [.dat (.int lo), .dat (.int (lo + n : Nat))] ∧ lo + n ≤ 1000000 ∧ RS (rangeD lo n) Ω1 δ1) : ES P w (iRng2 ta) Ω δ RS := fun σ S H g Q q =>
  h σ S H g _ fun vs r1 Ω1 δ1 S1 H1 h1 g1 s1 o1 => by
    obtain ⟨lo, n, rfl, hn, h1⟩ := h1
    obtain ⟨v, u, rfl, o, o'⟩ := two_of o1
    rw [Dq.int_inv o, Dq.int_inv o']
    refine ⟨lo, (lo + n : Nat), rfl, ⟨by omega, by omega, by omega, by omega⟩, ?_⟩
    have e : (((lo + n : Nat) : Int) - (lo : Int)).toNat = n := by omega
    rw [e]
    exact q _ _ _ _ _ _ h1 g1 s1 walkD_range
theorem es_enum {ta : TA} (h : EA P w ta Ω δ fun rs Ω1 δ1 => ∃ ds, rs = [.dat (.list ds)] ∧ RS (enumD ds) Ω1 δ1) : ES P w (iEnum K ta) Ω δ RS := fun σ S H g Q q =>
  h σ S H g _ fun vs r1 Ω1 δ1 S1 H1 h1 g1 s1 o1 => by
    obtain ⟨ds, rfl, h1⟩ := h1
    obtain ⟨v, rfl, o⟩ := one_of o1
    obtain ⟨a, xs, rfl, k1, k2⟩ := Dq.lst_inv o
    exact ⟨a, xs, rfl, SqL.of (g1.sub _ _ k1), q _ _ _ _ _ _ h1 g1 s1 (walkD_enum k1 k2)⟩
theorem es_rev {ta : TA} (h : EA P w ta Ω δ fun rs Ω1 δ1 => ∃ ds, rs = [.dat (.list ds)] ∧ RS ds.reverse Ω1 δ1) : ES P w (iRev K ta) Ω δ RS := fun σ S H g Q q =>
  h σ S H g _ fun vs r1 Ω1 δ1 S1 H1 h1 g1 s1 o1 => by
    obtain ⟨ds, rfl, h1⟩ := h1
    obtain ⟨v, rfl, o⟩ := one_of o1
    obtain ⟨a, xs, rfl, k1, k2⟩ := Dq.lst_inv o
    exact ⟨a, xs, rfl, SqL.of (g1.sub _ _ k1), q _ _ _ _ _ _ h1 g1 s1 (walkD_rev k1 k2)⟩
end
end D
set_option Elab.async false
set_option linter.all false
set_option maxRecDepth 100000
set_option maxHeartbeats 4000000
set_option autoImplicit false
namespace D
open PySem L2
section
variable {P : Program} {w : World} {K : PySem.W.Frag} {Ω : Wd} {δ : List AS} {R : KR} {RN : List PyData → Wd → List AS → Prop} {ta tb te : TE} {tt tu : TT} {σ : L2.St} {S H S1 H1 : Hp} {p : Po}

/-! ### slots stored -/
theorem mine_set {i j : Nat} {a : AS} {x : Option V} {q : Addr} (ha : a.mine = false) (h : Mine (δ.set i a) (σ.set i x) j q) : i ≠ j ∧ Mine δ σ j q := by
  obtain ⟨⟨b, e1, e2⟩, e3⟩ := h
  by_cases ij : i = j
  · subst ij
    have hlt : i < (δ.set i a).length := (List.getElem?_eq_some_iff.mp e1).1
    rw [List.length_set] at hlt
    rw [List.getElem?_set_self hlt] at e1
    cases e1
    rw [ha] at e2
    cases e2
  · rw [List.getElem?_set_ne ij] at e1 e3
    exact ⟨ij, ⟨b, e1, e2⟩, e3⟩
theorem Good.set {i : Nat} {a : AS} {x : Option V} (g : Good P w Ω δ σ S H) (ha : a.mine = false) (hx : SlotOk P w Ω.F S H a x) : Good P w Ω (δ.set i a) (σ.set i x) S H where
  sub := g.sub
  wld := g.wld
  fok := g.fok
  len := by rw [List.length_set, List.length_set]; exact g.len
  slot := fun j b e => by
    by_cases ij : i = j
    · subst ij
      have hlt : i < (δ.set i a).length := (List.getElem?_eq_some_iff.mp e).1
      rw [List.length_set] at hlt
      rw [List.getElem?_set_self hlt] at e
      cases e
      rw [List.getElem?_set_self (by rw [g.len]; exact hlt)]
      exact hx
    · rw [List.getElem?_set_ne ij] at e
      rw [List.getElem?_set_ne ij]
      exact g.slot j b e
  dist := fun j k q h1 h2 => g.dist j k q (mine_set ha h1).2 (mine_set ha h2).2
theorem Step.set {i : Nat} {a : AS} {x : Option V} (ha : a.mine = false) : Step Ω δ σ S H Ω (δ.set i a) (σ.set i x) S H :=
  ⟨Same.refl S, fun q o h n => ⟨h, rfl, fun t => n (t.imp id fun ⟨j, m⟩ => ⟨j, (mine_set ha m).2⟩)⟩, fun q o h => ⟨o, h⟩⟩
/-- a fresh list, a fresh dict of ours, into a slot -/
theorem mine_setO {i j : Nat} {a : AS} {q b : Addr} (hi : i < δ.length) (hl : σ.length = δ.length) (h : Mine (δ.set i a) (σ.set i (some (.ref q))) j b) : (i = j ∧ b = q) ∨ (i ≠ j ∧ Mine δ σ j b) := by
  obtain ⟨⟨c, e1, e2⟩, e3⟩ := h
  by_cases ij : i = j
  · subst ij
    rw [List.getElem?_set_self (by omega)] at e3
    cases e3
    exact .inl ⟨rfl, rfl⟩
  · rw [List.getElem?_set_ne ij] at e1 e3
    exact .inr ⟨ij, ⟨c, e1, e2⟩, e3⟩
theorem Good.setO {i : Nat} {a : AS} {q : Addr} (g : Good P w Ω δ σ S H) (hi : i < δ.length) (hT : ¬ Tch Ω δ σ q) (hx : SlotOk P w Ω.F S H a (some (.ref q))) : Good P w Ω (δ.set i a) (σ.set i (some (.ref q))) S H where
  sub := g.sub
  wld := g.wld
  fok := g.fok
  len := by rw [List.length_set, List.length_set]; exact g.len
  slot := fun j b e => by
    by_cases ij : i = j
    · subst ij
      rw [List.getElem?_set_self hi] at e
      cases e
      rw [List.getElem?_set_self (by rw [g.len]; exact hi)]
      exact hx
    · rw [List.getElem?_set_ne ij] at e
      rw [List.getElem?_set_ne ij]
      exact g.slot j b e
  dist := fun j k b h1 h2 => by
    rcases mine_setO hi g.len h1 with ⟨e1, rfl⟩ | ⟨n1, m1⟩
    · rcases mine_setO hi g.len h2 with ⟨e2, _⟩ | ⟨n2, m2⟩
      · exact e1.symm.trans e2
      · exact absurd (.inr ⟨k, m2⟩) hT
    · rcases mine_setO hi g.len h2 with ⟨e2, rfl⟩ | ⟨n2, m2⟩
      · exact absurd (.inr ⟨j, m1⟩) hT
      · exact g.dist j k b m1 m2
theorem Step.setO {i : Nat} {a : AS} {q : Addr} (s : Step Ω δ σ S H Ω δ σ S1 H1) (g : Good P w Ω δ σ S1 H1) (hi : i < δ.length) (hq : H q = none) : Step Ω δ σ S H Ω (δ.set i a) (σ.set i (some (.ref q))) S1 H1 :=
  ⟨s.same, fun b o h n => by
    obtain ⟨k1, k2, k3⟩ := s.keep b o h n
    refine ⟨k1, k2, fun t => k3 (t.imp id fun ⟨j, m⟩ => ?_)⟩
    rcases mine_setO hi g.len m with ⟨_, rfl⟩ | ⟨_, m⟩
    · rw [hq] at h
      cases h
    · exact ⟨j, m⟩, s.dom⟩
theorem Step.setO' {i : Nat} {a : AS} {q : Addr} {Ω1 : Wd} {δ1 : List AS} (s : Step Ω δ σ S H Ω1 δ1 σ S1 H1) (g : Good P w Ω1 δ1 σ S1 H1) (hi : i < δ1.length) (hq : H q = none) : Step Ω δ σ S H Ω1 (δ1.set i a) (σ.set i (some (.ref q))) S1 H1 :=
  ⟨s.same, fun b o h n => by
    obtain ⟨k1, k2, k3⟩ := s.keep b o h n
    refine ⟨k1, k2, fun t => k3 (t.imp id fun ⟨j, m⟩ => ?_)⟩
    rcases mine_setO hi g.len m with ⟨_, rfl⟩ | ⟨_, m⟩
    · rw [hq] at h
      cases h
    · exact ⟨j, m⟩, s.dom⟩
/-- an object of ours is written: slot i, its new word -/
theorem Good.wrote {i : Nat} {a b : AS} {q : Addr} {o : HO} (g : Good P w Ω δ σ S H) (e : δ[i]? = some a) (hs : σ[i]? = some (some (.ref q))) (hm : a.mine = true) (hF : ¬ Ω.F q) (hS : S q = none) (hx : SlotOk P w Ω.F S (upd H q o) b (some (.ref q))) :
    Good P w Ω (δ.set i b) σ S (upd H q o) where
  sub := fun c u h => by
    rw [upd_ne (fun z => by rw [z, hS] at h; cases h)]
    exact g.sub c u h
  wld := Ω.cl S H S _ g.wld (Same.refl S) fun c hc => ⟨rfl, upd_ne fun (z : c = q) => hF (by rw [← z]; exact hc)⟩
  fok := fun c hc => by
    obtain ⟨u, hu⟩ := g.fok c hc
    exact ⟨u, (upd_ne fun (z : c = q) => hF (by rw [← z]; exact hc)).trans hu⟩
  len := by rw [List.length_set]; exact g.len
  slot := fun j c h => by
    by_cases ij : i = j
    · subst ij
      rw [List.getElem?_set_self (List.getElem?_eq_some_iff.mp e).1] at h
      cases h
      rw [hs]
      exact hx
    · rw [List.getElem?_set_ne ij] at h
      have z := g.slot j c h
      cases c with
      | un => trivial
      | raw v => exact z
      | dat d => exact z
      | own ds =>
        obtain ⟨b2, xs, q1, q2, q3, q4, q5⟩ := z
        have nb : b2 ≠ q := fun y => ij (g.dist i j q ⟨⟨a, e, hm⟩, hs⟩ ⟨⟨_, h, rfl⟩, by rw [join_some q1, y]⟩)
        exact ⟨b2, xs, q1, q2, q3, (upd_ne nb).trans q4, q5⟩
      | dic ds =>
        obtain ⟨b2, xs, q1, q2, q3, q4, q5⟩ := z
        have nb : b2 ≠ q := fun y => ij (g.dist i j q ⟨⟨a, e, hm⟩, hs⟩ ⟨⟨_, h, rfl⟩, by rw [join_some q1, y]⟩)
        exact ⟨b2, xs, q1, q2, q3, (upd_ne nb).trans q4, q5⟩
  dist := fun j k c h1 h2 => by
    have back : ∀ {m : Nat} {c : Addr}, Mine (δ.set i b) σ m c → Mine δ σ m c := fun {m c} ⟨⟨d, d1, d2⟩, d3⟩ => by
      by_cases ij : i = m
      · subst ij
        exact ⟨⟨a, e, hm⟩, d3⟩
      · rw [List.getElem?_set_ne ij] at d1
        exact ⟨⟨d, d1, d2⟩, d3⟩
    exact g.dist j k c (back h1) (back h2)
theorem Step.wrote {i : Nat} {a b : AS} {q : Addr} {o : HO} (e : δ[i]? = some a) (hs : σ[i]? = some (some (.ref q))) (hm : a.mine = true) : Step Ω δ σ S H Ω (δ.set i b) σ S (upd H q o) :=
  ⟨Same.refl S, fun c u h n => by
    have nc : c ≠ q := fun z => n (.inr ⟨i, ⟨⟨a, e, hm⟩, by rw [z]; exact hs⟩⟩)
    refine ⟨(upd_ne nc).trans h, rfl, fun t => n (t.imp id fun ⟨j, ⟨d, d1, d2⟩, d3⟩ => ⟨j, ?_, d3⟩)⟩
    by_cases ij : i = j
    · subst ij
      exact ⟨a, e, hm⟩
    · rw [List.getElem?_set_ne ij] at d1
      exact ⟨d, d1, d2⟩, fun c u h => by
    by_cases nc : c = q
    · subst nc
      exact ⟨_, upd_same⟩
    · exact ⟨u, (upd_ne nc).trans h⟩⟩

/-! ### targets -/
abbrev Ups := List (Nat × PyData)
def setD (δ : List AS) (us : Ups) : List AS := us.foldl (fun δ q => δ.set q.1 (.dat q.2)) δ
def setV (σ : L2.St) (us : List (Nat × V)) : L2.St := us.foldl (fun σ q => σ.set q.1 (some q.2)) σ
abbrev UpOk (S : Hp) : List (Nat × V) → Ups → Prop := Paired fun u q => u.1 = q.1 ∧ Dq S u.2 q.2
/-- the target stores d so -/
def GS (g : TG) (d : PyData) (ups : Ups) : Prop := ∀ (S H : Hp) (σ : L2.St) (v : V) (Q : L2.St → Hp → Prop), Same S H → Dq S v d → (∀ us, UpOk S us ups → Q (setV σ us) H) → g v σ H Q
theorem gs_name {j : Nat} {d : PyData} : GS (gName j) d [(j, d)] := fun S H σ v Q e h q => q [(j, v)] (.cons ⟨rfl, h⟩ .nil)
theorem gs_tup2 {i j : Nat} {a b : PyData} : GS (gTup K 2 (gCons (gName i) (gCons (gName j) gNil))) (.tuple [a, b]) [(i, a), (j, b)] := fun S H σ v Q e h q => by
  obtain ⟨c, xs, rfl, h1, h2⟩ := Dq.tup_inv h
  cases h2 with
  | cons ha h2 => cases h2 with
    | cons hb h2 =>
      cases h2
      exact ⟨c, _, rfl, SqT.of (e _ _ h1), rfl, _, _, rfl, _, _, rfl, rfl, q [(i, _), (j, _)] (.cons ⟨rfl, ha⟩ (.cons ⟨rfl, hb⟩ .nil))⟩
theorem gs_tup4 {i j k l : Nat} {a b c d : PyData} : GS (gTup K 4 (gCons (gName i) (gCons (gName j) (gCons (gName k) (gCons (gName l) gNil))))) (.tuple [a, b, c, d]) [(i, a), (j, b), (k, c), (l, d)] := fun S H σ v Q e h q => by
  obtain ⟨t, xs, rfl, h1, h2⟩ := Dq.tup_inv h
  cases h2 with
  | cons ha h2 => cases h2 with
    | cons hb h2 => cases h2 with
      | cons hc h2 => cases h2 with
        | cons hd h2 =>
          cases h2
          exact ⟨t, _, rfl, SqT.of (e _ _ h1), rfl, _, _, rfl, _, _, rfl, _, _, rfl, _, _, rfl, rfl, q [(i, _), (j, _), (k, _), (l, _)] (.cons ⟨rfl, ha⟩ (.cons ⟨rfl, hb⟩ (.cons ⟨rfl, hc⟩ (.cons ⟨rfl, hd⟩ .nil))))⟩
theorem Good.sets : ∀ {ups : Ups} {us : List (Nat × V)} {δ : List AS} {σ : L2.St}, Good P w Ω δ σ S H → UpOk S us ups → Good P w Ω (setD δ ups) (setV σ us) S H ∧ Step Ω δ σ S H Ω (setD δ ups) (setV σ us) S H
  | _, _, δ, σ, g, .nil => ⟨g, Step.refl⟩
  | _, _, δ, σ, g, .cons (a := u) (b := q) h t => by
    have g1 : Good P w Ω (δ.set q.1 (.dat q.2)) (σ.set u.1 (some u.2)) S H := by
      rw [h.1]
      exact g.set rfl ⟨u.2, rfl, h.2⟩
    have s1 : Step Ω δ σ S H Ω (δ.set q.1 (.dat q.2)) (σ.set u.1 (some u.2)) S H := by
      rw [h.1]
      exact Step.set rfl
    obtain ⟨g2, s2⟩ := Good.sets g1 t
    exact ⟨g2, s1.trans s2⟩

/-! ### statements -/
variable {ts tv : TS}
theorem se_next (k : p.nx Ω δ) : SE P w tNext Ω δ p := fun σ S H g D q => q.nx Ω δ σ S H k g Step.refl
theorem se_seq (h : SE P w ts Ω δ ⟨fun Ω' δ' => SE P w tv Ω' δ' p, p.rt, p.bk, p.ct⟩) : SE P w (tSeq ts tv) Ω δ p := fun σ S H g D q =>
  h σ S H g _ ⟨fun Ω' δ' σ' S' H' a g1 s1 => a σ' S' H' g1 D (q.step s1), q.rt, q.bk, q.ct⟩
theorem SE.imp {p' : Po} (h : SE P w ts Ω δ p) (k1 : ∀ Ω' δ', p.nx Ω' δ' → p'.nx Ω' δ') (k2 : ∀ r Ω', p.rt r Ω' → p'.rt r Ω') (k3 : ∀ Ω' δ', p.bk Ω' δ' → p'.bk Ω' δ') (k4 : ∀ Ω' δ', p.ct Ω' δ' → p'.ct Ω' δ') : SE P w ts Ω δ p' := fun σ S H g D q =>
  h σ S H g D ⟨fun _ _ _ _ _ a => q.nx _ _ _ _ _ (k1 _ _ a), fun _ _ _ _ _ _ _ a => q.rt _ _ _ _ _ _ _ (k2 _ _ a), fun _ _ _ _ _ a => q.bk _ _ _ _ _ (k3 _ _ a), fun _ _ _ _ _ a => q.ct _ _ _ _ _ (k4 _ _ a)⟩
theorem se_asg {g : TG} (h : EE P w te Ω δ fun r Ω1 δ1 => ∃ d ups, r = .dat d ∧ GS g d ups ∧ p.nx Ω1 (setD δ1 ups)) : SE P w (tAsg te g) Ω δ p := fun σ S H gd D q =>
  h σ S H gd _ fun x r1 Ω1 δ1 S1 H1 h1 g1 s1 o1 => by
    obtain ⟨d, ups, rfl, hg, k⟩ := h1
    refine hg S1 H1 σ x _ g1.sub o1 fun us hu => ?_
    obtain ⟨g2, s2⟩ := Good.sets g1 hu
    exact q.nx _ _ _ _ _ k g2 (s1.trans s2)
theorem se_set {i : Nat} (h : EE P w te Ω δ fun r Ω1 δ1 => ∃ d, r = .dat d ∧ p.nx Ω1 (δ1.set i (.dat d))) : SE P w (tAsg te (gName i)) Ω δ p :=
  se_asg (h.imp fun r Ω' δ' ⟨d, e, k⟩ => ⟨d, _, e, gs_name, k⟩)
theorem se_setV {i : Nat} (h : EE P w te Ω δ fun r Ω1 δ1 => ∃ v, r = .raw v ∧ p.nx Ω1 (δ1.set i (.raw v))) : SE P w (tAsg te (gName i)) Ω δ p := fun σ S H gd D q =>
  h σ S H gd _ fun x r1 Ω1 δ1 S1 H1 h1 g1 s1 o1 => by
    obtain ⟨v, rfl, k⟩ := h1
    cases (show x = v from o1)
    exact q.nx _ _ _ _ _ k (g1.set rfl rfl) (s1.trans (Step.set rfl))
theorem se_setN {i : Nat} (h : EN P w te Ω δ fun ds Ω1 δ1 => i < δ1.length ∧ p.nx Ω1 (δ1.set i (.own ds))) : SE P w (tAsg te (gName i)) Ω δ p := fun σ S H gd D q =>
  h σ S H gd _ fun a xs ds Ω1 δ1 S1 H1 h1 g1 s1 ha hl hS hT hd =>
    q.nx _ _ _ _ _ h1.2 (g1.setO h1.1 hT ⟨a, xs, rfl, fun z => hT (.inl z), hS, hl, hd⟩) (Step.setO' s1 g1 h1.1 ha)
theorem se_if (h : ET P w tt Ω δ fun b Ω1 δ1 => (b = true → SE P w ts Ω1 δ1 p) ∧ (b = false → SE P w tv Ω1 δ1 p)) : SE P w (tIfS tt ts tv) Ω δ p := fun σ S H gd D q =>
  h σ S H gd _ fun b Ω1 δ1 S1 H1 h1 g1 s1 => by
    cases b with
    | true => exact h1.1 rfl σ S1 H1 g1 D (q.step s1)
    | false => exact h1.2 rfl σ S1 H1 g1 D (q.step s1)
theorem se_ret (h : EE P w te Ω δ fun r Ω1 δ1 => (∀ i, r ≠ .own i) ∧ p.rt r Ω1) : SE P w (tRet te) Ω δ p := fun σ S H gd D q =>
  h σ S H gd _ fun x r1 Ω1 δ1 S1 H1 h1 g1 s1 o1 => q.rt x r1 Ω1 δ1 σ S1 H1 h1.2 g1 s1 o1
theorem se_retD (h : EE P w te Ω δ fun r Ω1 δ1 => ∃ d, r = .dat d ∧ p.rt r Ω1) : SE P w (tRet te) Ω δ p :=
  se_ret (h.imp fun r Ω1 δ1 ⟨d, e, k⟩ => ⟨fun i z => (by rw [e] at z; cases z), k⟩)
theorem se_retN (k : p.rt (.dat .none) Ω) : SE P w tRetN Ω δ p := fun σ S H gd D q => q.rt .non (.dat .none) Ω δ σ S H k gd Step.refl .non
theorem se_drop (h : EE P w te Ω δ fun _ Ω1 δ1 => p.nx Ω1 δ1) : SE P w (tDrop te) Ω δ p := fun σ S H gd D q =>
  h σ S H gd _ fun x r1 Ω1 δ1 S1 H1 h1 g1 s1 o1 => q.nx _ _ _ _ _ h1 g1 s1
theorem se_aug {i : Nat} {f : Int → Int → Int} {a : Int} (e : δ[i]? = some (.dat (.int a))) (h : EE P w te Ω δ fun r Ω1 δ1 => ∃ b, r = .dat (.int b) ∧ p.nx Ω1 (δ1.set i (.dat (.int (f a b))))) : SE P w (tAug i te (ipI f)) Ω δ p := fun σ S H gd D q => by
  obtain ⟨v, h1, h2⟩ := slot_at gd e
  rw [Dq.int_inv h2] at h1
  refine ⟨.int a, join_some h1, ?_⟩
  refine h σ S H gd _ fun x r1 Ω1 δ1 S1 H1 h1 g1 s1 o1 => ?_
  obtain ⟨b, rfl, k⟩ := h1
  rw [Dq.int_inv o1]
  exact ⟨a, b, rfl, rfl, q.nx _ _ _ _ _ k (g1.set rfl ⟨_, rfl, .int _⟩) (s1.trans (Step.set rfl))⟩
/-- a slot of ours is from now on data -/
theorem se_freeze {i : Nat} {ds : List PyData} (e : δ[i]? = some (.own ds)) (h : SE P w ts Ω (δ.set i (.dat (.list ds))) p) : SE P w ts Ω δ p := fun σ S H g D q => by
  obtain ⟨a, xs, h1, h2, h3, h4, h5⟩ := slot_at g e
  have hs := join_some h1
  have hlt : i < δ.length := (List.getElem?_eq_some_iff.mp e).1
  have notA : ∀ {j : Nat} {b : Addr}, Mine (δ.set i (.dat (.list ds))) σ j b → i ≠ j ∧ Mine δ σ j b := fun {j b} ⟨⟨c, c1, c2⟩, c3⟩ => by
    by_cases ij : i = j
    · subst ij
      rw [List.getElem?_set_self hlt] at c1
      cases c1
      cases c2
    · rw [List.getElem?_set_ne ij] at c1
      exact ⟨ij, ⟨c, c1, c2⟩, c3⟩
  have g0 : Good P w Ω (δ.set i .un) σ S H := by
    have z := g.set (i := i) (a := .un) (x := some (.ref a)) rfl trivial
    have e2 : σ.set i (some (.ref a)) = σ := by
      refine List.ext_getElem? fun j => ?_
      by_cases ij : i = j
      · subst ij
        rw [List.getElem?_set_self (by rw [g.len]; exact hlt), hs]
      · rw [List.getElem?_set_ne ij]
    rw [e2] at z
    exact z
  have hT : ¬ Tch Ω (δ.set i .un) σ a := fun t => by
    rcases t with t | ⟨j, ⟨c, c1, c2⟩, c3⟩
    · exact h2 t
    · by_cases ij : i = j
      · subst ij
        rw [List.getElem?_set_self hlt] at c1
        cases c1
        cases c2
      · rw [List.getElem?_set_ne ij] at c1
        exact ij (g.dist i j a ⟨⟨_, e, rfl⟩, hs⟩ ⟨⟨c, c1, c2⟩, c3⟩)
  have g1 := g0.freeze h4 h3 hT
  have g2 : Good P w Ω (δ.set i (.dat (.list ds))) σ (upd S a (.lst xs)) H := by
    have z := g1.set (i := i) (a := .dat (.list ds)) (x := some (.ref a)) rfl ⟨_, rfl, .lst upd_same (h5.mono (Same.new h3))⟩
    have e2 : σ.set i (some (.ref a)) = σ := by
      refine List.ext_getElem? fun j => ?_
      by_cases ij : i = j
      · subst ij
        rw [List.getElem?_set_self (by rw [g.len]; exact hlt), hs]
      · rw [List.getElem?_set_ne ij]
    rw [e2, List.set_set] at z
    exact z
  refine h σ _ H g2 D (q.step ⟨Same.new h3, fun b o hb n => ⟨hb, upd_ne fun z => n (.inr ⟨i, ⟨⟨_, e, rfl⟩, by rw [z]; exact hs⟩⟩), fun t => n (t.imp id fun ⟨j, m⟩ => ⟨j, (notA m).2⟩)⟩, fun b o hb => ⟨o, hb⟩⟩)
/-- xs.append(e), xs ours -/
theorem se_append {i : Nat} {ds0 : List PyData} (e0 : δ[i]? = some (.own ds0)) (h : EE P w te Ω δ fun r Ω1 δ1 => ∃ d ds, r = .dat d ∧ δ1[i]? = some (.own ds) ∧ ds.length < sizeLine ∧ p.nx Ω1 (δ1.set i (.own (ds ++ [d])))) :
    SE P w (tDrop (tBM K "list" rAppend (tVar i) (tCons te tNil))) Ω δ p := fun σ S H g D q => by
  obtain ⟨a, xs, h1, h2, h3, h4, h5⟩ := slot_at g e0
  have hs := join_some h1
  refine ⟨.ref a, hs, .inl ⟨rfl, xs, SqL.of h4⟩, ?_⟩
  refine h σ S H g _ fun x r1 Ω1 δ1 S1 H1 k1 g1 s1 o1 => ?_
  obtain ⟨d, ds, rfl, e1, hl, k⟩ := k1
  obtain ⟨a', xs', h1', h2', h3', h4', h5'⟩ := slot_at g1 e1
  rw [hs] at h1'
  cases h1'
  refine ⟨a, xs', x, rfl, rfl, h4', by rw [h5'.length]; exact hl, ?_⟩
  exact q.nx _ _ _ _ _ k (g1.wrote e1 hs rfl h2' h3' ⟨a, _, rfl, h2', h3', upd_same, h5'.append (.cons o1 .nil)⟩) (s1.trans (Step.wrote e1 hs rfl))
/-- xs.extend(e), xs ours -/
theorem se_extend {i : Nat} {ds0 : List PyData} (e0 : δ[i]? = some (.own ds0)) (h : EE P w te Ω δ fun r Ω1 δ1 => ∃ es ds, r = .dat (.list es) ∧ δ1[i]? = some (.own ds) ∧ ds.length + es.length ≤ sizeLine ∧ p.nx Ω1 (δ1.set i (.own (ds ++ es)))) :
    SE P w (tDrop (tBM K "list" rExtend (tVar i) (tCons te tNil))) Ω δ p := fun σ S H g D q => by
  obtain ⟨a, xs, h1, h2, h3, h4, h5⟩ := slot_at g e0
  have hs := join_some h1
  refine ⟨.ref a, hs, .inl ⟨rfl, xs, SqL.of h4⟩, ?_⟩
  refine h σ S H g _ fun x r1 Ω1 δ1 S1 H1 k1 g1 s1 o1 => ?_
  obtain ⟨es, ds, rfl, e1, hl, k⟩ := k1
  obtain ⟨b, zs, rfl, k2, k3⟩ := Dq.lst_inv o1
  obtain ⟨a', xs', h1', h2', h3', h4', h5'⟩ := slot_at g1 e1
  rw [hs] at h1'
  cases h1'
  refine ⟨a, b, xs', zs, rfl, rfl, h4', g1.sub _ _ k2, by rw [h5'.length, k3.length]; exact hl, ?_⟩
  exact q.nx _ _ _ _ _ k (g1.wrote e1 hs rfl h2' h3' ⟨a, _, rfl, h2', h3', upd_same, h5'.append k3⟩) (s1.trans (Step.wrote e1 hs rfl))
/-- y = xs.pop(), xs ours -/
theorem se_pop {i j : Nat} {ds : List PyData} {d : PyData} (e0 : δ[i]? = some (.own (ds ++ [d]))) (k : p.nx Ω ((δ.set i (.own ds)).set j (.dat d))) :
    SE P w (tAsg (tBM0 K "list" rPop (tVar i)) (gName j)) Ω δ p := fun σ S H g D q => by
  obtain ⟨a, xs, h1, h2, h3, h4, h5⟩ := slot_at g e0
  have hs := join_some h1
  have hl := h5.length
  rw [List.length_append, List.length_singleton] at hl
  obtain ⟨v, e1, e2⟩ := h5.get (i := ds.length) (d := d) (by rw [List.getElem?_append_right (Nat.le_refl _), Nat.sub_self]; rfl)
  refine ⟨.ref a, hs, .inl ⟨rfl, xs, SqL.of h4⟩, a, xs, v, rfl, rfl, h4, by rw [show xs.length - 1 = ds.length by omega]; exact e1, ?_⟩
  have hd : DqAll S xs.dropLast ds := by
    have z := h5.take ds.length
    rw [List.take_left] at z
    rw [List.dropLast_eq_take, show xs.length - 1 = ds.length by omega]
    exact z
  have g1 := g.wrote (b := .own ds) (o := .lst xs.dropLast) e0 hs rfl h2 h3 ⟨a, _, rfl, h2, h3, upd_same, hd⟩
  exact q.nx _ _ _ _ _ k (g1.set rfl ⟨v, rfl, e2⟩) ((Step.wrote e0 hs rfl).trans (Step.set rfl))

/-! ### loops -/
theorem se_for {wi : TI} {g : TG} {tb : TS} (h : ES P w wi Ω δ fun ds Ω1 δ1 => ∃ I : Nat → Wd → List AS → Prop, I 0 Ω1 δ1 ∧
    (∀ i d Ω' δ', ds[i]? = some d → I i Ω' δ' → ∃ ups, GS g d ups ∧ SE P w tb Ω' (setD δ' ups) ⟨I (i + 1), p.rt, p.nx, I (i + 1)⟩) ∧ ∀ Ω' δ', I ds.length Ω' δ' → p.nx Ω' δ') : SE P w (tFor wi g tb) Ω δ p := fun σ S H gd D q =>
  h σ S H gd _ fun J ds Ω1 δ1 S1 H1 h1 g1 s1 wk => by
    obtain ⟨I, i0, turn, fin⟩ := h1
    refine ⟨fun i m σ' H' => m = ds.length - i ∧ i ≤ ds.length ∧ ∃ Ω' δ' S', I i Ω' δ' ∧ Good P w Ω' δ' σ' S' H' ∧ Step Ω1 δ1 σ S1 H1 Ω' δ' σ' S' H', ⟨_, rfl, Nat.zero_le _, Ω1, δ1, S1, i0, g1, Step.refl⟩, ?_⟩
    rintro i m σ' H' ⟨rfl, hi, Ω', δ', S', hI, g', s'⟩
    by_cases hlt : i < ds.length
    · obtain ⟨go, yl⟩ := wk.go Ω' δ' σ' S' H' g' s'.same i hlt
      refine .inr ⟨go, fun σ2 H2 => ∃ Ω2 δ2 S2, I (i + 1) Ω2 δ2 ∧ Good P w Ω2 δ2 σ2 S2 H2 ∧ Step Ω1 δ1 σ S1 H1 Ω2 δ2 σ2 S2 H2, fun σ2 H2 ⟨Ω2, δ2, S2, a, b, c⟩ => ⟨_, by omega, rfl, hlt, Ω2, δ2, S2, a, b, c⟩, fun x H2 y => ?_⟩
      obtain ⟨S2, d, g2, s2, hd, hx⟩ := yl x H2 y
      obtain ⟨ups, hg, hb⟩ := turn i d Ω' δ' hd hI
      refine hg S2 H2 σ' x _ g2.sub hx fun us hu => ?_
      obtain ⟨g3, s3⟩ := Good.sets g2 hu
      have s4 := (s'.trans s2).trans s3
      exact hb _ S2 H2 g3 _ ⟨fun Ω4 δ4 σ4 S4 H4 a b c => ⟨Ω4, δ4, S4, a, b, s4.trans c⟩, fun v r Ω4 δ4 σ4 S4 H4 a b c o => q.rt v r Ω4 δ4 σ4 S4 H4 a b (s1.trans (s4.trans c)) o, fun Ω4 δ4 σ4 S4 H4 a b c => q.nx Ω4 δ4 σ4 S4 H4 a b (s1.trans (s4.trans c)), fun Ω4 δ4 σ4 S4 H4 a b c => ⟨Ω4, δ4, S4, a, b, s4.trans c⟩⟩
    · have e : i = ds.length := by omega
      subst e
      exact .inl ⟨wk.stop Ω' δ' σ' S' H' g' s'.same, q.nx _ _ _ _ _ (fin _ _ hI) g' (s1.trans s')⟩
theorem se_while {tb : TS} (I : Nat → Wd → List AS → Prop) (m0 : Nat) (h0 : I m0 Ω δ)
    (hs : ∀ m Ω' δ', I m Ω' δ' → ET P w tt Ω' δ' fun b Ω2 δ2 => (b = true → SE P w tb Ω2 δ2 ⟨fun Ω3 δ3 => ∃ m', m' < m ∧ I m' Ω3 δ3, p.rt, p.nx, fun Ω3 δ3 => ∃ m', m' < m ∧ I m' Ω3 δ3⟩) ∧ (b = false → p.nx Ω2 δ2)) : SE P w (tWhile tt tb) Ω δ p := fun σ S H gd D q => by
  refine ⟨fun m σ' H' => ∃ Ω' δ' S', I m Ω' δ' ∧ Good P w Ω' δ' σ' S' H' ∧ Step Ω δ σ S H Ω' δ' σ' S' H', ⟨m0, Ω, δ, S, h0, gd, Step.refl⟩, ?_⟩
  rintro m σ' H' ⟨Ω', δ', S', hI, g', s'⟩
  refine hs m Ω' δ' hI σ' S' H' g' _ fun b Ω2 δ2 S2 H2 h2 g2 s2 => ?_
  have s3 := s'.trans s2
  cases b with
  | true =>
    rw [if_pos rfl]
    refine ⟨fun σ3 H3 => ∃ m', m' < m ∧ ∃ Ω3 δ3 S3, I m' Ω3 δ3 ∧ Good P w Ω3 δ3 σ3 S3 H3 ∧ Step Ω δ σ S H Ω3 δ3 σ3 S3 H3, fun σ3 H3 ⟨m', hm, a⟩ => ⟨m', hm, a⟩, ?_⟩
    exact h2.1 rfl σ' S2 H2 g2 _ ⟨fun Ω4 δ4 σ4 S4 H4 ⟨m', hm, a⟩ b c => ⟨m', hm, Ω4, δ4, S4, a, b, s3.trans c⟩, fun v r Ω4 δ4 σ4 S4 H4 a b c o => q.rt v r Ω4 δ4 σ4 S4 H4 a b (s3.trans c) o, fun Ω4 δ4 σ4 S4 H4 a b c => q.nx Ω4 δ4 σ4 S4 H4 a b (s3.trans c), fun Ω4 δ4 σ4 S4 H4 ⟨m', hm, a⟩ b c => ⟨m', hm, Ω4, δ4, S4, a, b, s3.trans c⟩⟩
  | false =>
    rw [if_neg Bool.false_ne_true]
    exact q.nx _ _ _ _ _ (h2.2 rfl) g2 s3
end
end D
set_option Elab.async false
set_option linter.all false
set_option maxRecDepth 100000
set_option maxHeartbeats 4000000
set_option autoImplicit false
namespace D
open PySem L2
section
variable {P : Program} {w : World} {K : PySem.W.Frag} {Ω : Wd} {δ : List AS} {R : KR} {RN : List PyData → Wd → List AS → Prop} {ta tb te : TE} {tt tu : TT} {σ : L2.St} {S H S1 H1 : Hp} {p : Po}
/-! ### comprehensions -/
def wipeD (δ : List AS) : List Nat → List AS
  | [] => δ
  | v :: vs => (wipeD δ vs).set v .un
theorem Good.wipe (g : Good P w Ω δ σ S H) : ∀ vs : List Nat, Good P w Ω (wipeD δ vs) (wipe σ vs) S H ∧ Step Ω δ σ S H Ω (wipeD δ vs) (wipe σ vs) S H
  | [] => ⟨g, Step.refl⟩
  | v :: vs => by
    obtain ⟨g1, s1⟩ := Good.wipe g vs
    exact ⟨g1.set rfl trivial, s1.trans (Step.set rfl)⟩
theorem wipeD_off {i : Nat} : ∀ {vs : List Nat}, i ∉ vs → (wipeD δ vs)[i]? = δ[i]?
  | [], _ => rfl
  | v :: vs, h => by
    show ((wipeD δ vs).set v .un)[i]? = δ[i]?
    rw [List.getElem?_set_ne (fun e => h (by rw [e]; exact List.mem_cons_self)), wipeD_off fun z => h (List.mem_cons_of_mem _ z)]
theorem wipe_off {i : Nat} : ∀ {vs : List Nat}, i ∉ vs → (wipe σ vs)[i]? = σ[i]?
  | [], _ => rfl
  | v :: vs, h => by
    show ((wipe σ vs).set v none)[i]? = σ[i]?
    rw [List.getElem?_set_ne (fun e => h (by rw [e]; exact List.mem_cons_self)), wipe_off fun z => h (List.mem_cons_of_mem _ z)]
theorem wipe_on {i : Nat} (hi : i < σ.length) : ∀ {vs : List Nat}, i ∈ vs → (wipe σ vs)[i]? = some none
  | [], h => by cases h
  | v :: vs, h => by
    show ((wipe σ vs).set v none)[i]? = some none
    by_cases e : v = i
    · subst e
      rw [List.getElem?_set_self (by rw [wipe_length]; exact hi)]
    · rw [List.getElem?_set_ne e]
      rcases List.mem_cons.mp h with z | z
      · exact absurd z.symm e
      · exact wipe_on hi z
theorem wipe_eq {σ2 : L2.St} {vs : List Nat} (hl : σ2.length = σ.length) (h : ∀ i, i ∉ vs → σ2[i]? = σ[i]?) : wipe σ2 vs = wipe σ vs := by
  refine List.ext_getElem? fun i => ?_
  by_cases hv : i ∈ vs
  · by_cases hi : i < σ.length
    · rw [wipe_on hi hv, wipe_on (by rw [hl]; exact hi) hv]
    · rw [List.getElem?_eq_none (by rw [wipe_length]; omega), List.getElem?_eq_none (by rw [wipe_length]; omega)]
  · rw [wipe_off hv, wipe_off hv, h i hv]
theorem setV_len : ∀ (us : List (Nat × V)) (σ : L2.St), (setV σ us).length = σ.length
  | [], _ => rfl
  | u :: us, σ => by
    show (setV (σ.set u.1 (some u.2)) us).length = _
    rw [setV_len us, List.length_set]
theorem setV_off {i : Nat} : ∀ (us : List (Nat × V)) (σ : L2.St), (∀ u ∈ us, u.1 ≠ i) → (setV σ us)[i]? = σ[i]?
  | [], _, _ => rfl
  | u :: us, σ, h => by
    show (setV (σ.set u.1 (some u.2)) us)[i]? = _
    rw [setV_off us _ fun z hz => h z (List.mem_cons_of_mem _ hz), List.getElem?_set_ne (h u List.mem_cons_self)]
theorem setD_off {i : Nat} : ∀ (us : Ups) (δ : List AS), (∀ u ∈ us, u.1 ≠ i) → (setD δ us)[i]? = δ[i]?
  | [], _, _ => rfl
  | u :: us, δ, h => by
    show (setD (δ.set u.1 (.dat u.2)) us)[i]? = _
    rw [setD_off us _ fun z hz => h z (List.mem_cons_of_mem _ hz), List.getElem?_set_ne (h u List.mem_cons_self)]
theorem setD_len : ∀ (us : Ups) (δ : List AS), (setD δ us).length = δ.length
  | [], _ => rfl
  | u :: us, δ => by
    show (setD (δ.set u.1 (.dat u.2)) us).length = _
    rw [setD_len us, List.length_set]
theorem upOk_keys : ∀ {us : List (Nat × V)} {ups : Ups}, UpOk S us ups → us.map (·.1) = ups.map (·.1)
  | _, _, .nil => rfl
  | _, _, .cons h t => by
    rw [List.map_cons, List.map_cons, h.1, upOk_keys t]
def NotMine (δ : List AS) (vs : List Nat) : Prop := ∀ j ∈ vs, ∀ a, δ[j]? = some a → a.mine = false
/-- back from the block -/
theorem Good.unwipe {δt : List AS} {σt : L2.St} {vs : List Nat} {S2 H2 : Hp} (g : Good P w Ω δ σ S H) (gt : Good P w Ω δt σt S2 H2) (e : Same S S2) (hd : ∀ i, i ∉ vs → δt[i]? = δ[i]?) (hs : ∀ i, i ∉ vs → σt[i]? = σ[i]?) (hn : NotMine δ vs) : Good P w Ω δ σ S2 H2 where
  sub := gt.sub
  wld := gt.wld
  fok := gt.fok
  len := g.len
  slot := fun i a q => by
    by_cases hv : i ∈ vs
    · have m := hn i hv a q
      have z := g.slot i a q
      cases a with
      | un => trivial
      | raw v => exact z
      | dat d => obtain ⟨v, q1, q2⟩ := z; exact ⟨v, q1, q2.mono e⟩
      | own ds => cases m
      | dic ds => cases m
    · rw [← hs i hv]
      exact gt.slot i a ((hd i hv).trans q)
  dist := g.dist
theorem mine_off {δt : List AS} {σt : L2.St} {vs : List Nat} (hd : ∀ i, i ∉ vs → δt[i]? = δ[i]?) (hs : ∀ i, i ∉ vs → σt[i]? = σ[i]?) (hn : NotMine δ vs) {j : Nat} {q : Addr} (m : Mine δ σ j q) : Mine δt σt j q := by
  obtain ⟨⟨a, e1, e2⟩, e3⟩ := m
  have hv : j ∉ vs := fun z => by
    have := hn j z a e1
    rw [this] at e2
    cases e2
  exact ⟨⟨a, (hd j hv).trans e1, e2⟩, (hs j hv).trans e3⟩
/-- an object that is nobody's is written -/
theorem Good.other {q : Addr} {o : HO} (g : Good P w Ω δ σ S H) (hS : S q = none) (hT : ¬ Tch Ω δ σ q) : Good P w Ω δ σ S (upd H q o) where
  sub := fun c u h => by
    rw [upd_ne (fun z => by rw [z, hS] at h; cases h)]
    exact g.sub c u h
  wld := Ω.cl S H S _ g.wld (Same.refl S) fun c hc => ⟨rfl, upd_ne fun (z : c = q) => hT (.inl (by rw [← z]; exact hc))⟩
  fok := fun c hc => by
    obtain ⟨u, hu⟩ := g.fok c hc
    exact ⟨u, (upd_ne fun (z : c = q) => hT (.inl (by rw [← z]; exact hc))).trans hu⟩
  len := g.len
  slot := fun j c h => by
    have z := g.slot j c h
    cases c with
    | un => trivial
    | raw v => exact z
    | dat d => exact z
    | own ds =>
      obtain ⟨b2, xs, q1, q2, q3, q4, q5⟩ := z
      have nb : b2 ≠ q := fun y => hT (.inr ⟨j, ⟨_, h, rfl⟩, by rw [join_some q1, y]⟩)
      exact ⟨b2, xs, q1, q2, q3, (upd_ne nb).trans q4, q5⟩
    | dic ds =>
      obtain ⟨b2, xs, q1, q2, q3, q4, q5⟩ := z
      have nb : b2 ≠ q := fun y => hT (.inr ⟨j, ⟨_, h, rfl⟩, by rw [join_some q1, y]⟩)
      exact ⟨b2, xs, q1, q2, q3, (upd_ne nb).trans q4, q5⟩
  dist := g.dist
theorem en_lc {wi : TI} {g : TG} {vs : List Nat} (h : ES P w wi Ω δ fun ds Ω1 δ1 => NotMine δ1 vs ∧ ds.length < sizeLine ∧ ∃ I : Nat → List PyData → Prop, I 0 [] ∧
    (∀ i d acc, ds[i]? = some d → I i acc → ∃ ups, GS g d ups ∧ (∀ u ∈ ups, u.1 ∈ vs) ∧ ET P w tt Ω1 (setD (wipeD δ1 vs) ups) fun b Ω2 δ2 => Ω2 = Ω1 ∧ δ2 = setD (wipeD δ1 vs) ups ∧
      (b = true → EE P w te Ω2 δ2 fun r Ω3 δ3 => Ω3 = Ω1 ∧ δ3 = setD (wipeD δ1 vs) ups ∧ ∃ e, r = .dat e ∧ I (i + 1) (acc ++ [e])) ∧ (b = false → I (i + 1) acc)) ∧
    ∀ acc, acc.length ≤ ds.length → I ds.length acc → RN acc Ω1 δ1) : EN P w (tLc wi g tt te vs) Ω δ RN := fun σ S H gd Q q =>
  h σ S H gd _ fun J ds Ω1 δ1 S1 H1 h1 g1 s1 wk => fun Da hD => by
    obtain ⟨hn, hz, I, i0, turn, fin⟩ := h1
    have hT0 : ¬ Tch Ω1 δ1 σ Da := g1.notTch hD
    refine ⟨fun i m H' => m = ds.length - i ∧ i ≤ ds.length ∧ ∃ S' xs acc, I i acc ∧ acc.length ≤ i ∧ Good P w Ω1 δ1 σ S' H' ∧ Step Ω1 δ1 σ S1 H1 Ω1 δ1 σ S' H' ∧ H' Da = some (.lst xs) ∧ S' Da = none ∧ DqAll S' xs acc,
      ⟨_, rfl, Nat.zero_le _, S1, [], [], i0, Nat.zero_le _, g1.new' hD, Step.new' hD, upd_same, g1.sub.free hD, .nil⟩, ?_⟩
    rintro i m H' ⟨rfl, hi, S', xs, acc, hI, hacc, g', s', hl, hS, hd⟩
    by_cases hlt : i < ds.length
    · obtain ⟨go, yl⟩ := wk.go Ω1 δ1 σ S' H' g' s'.same i hlt
      refine .inr ⟨go, fun H2 => ∃ S2 xs acc, I (i + 1) acc ∧ acc.length ≤ i + 1 ∧ Good P w Ω1 δ1 σ S2 H2 ∧ Step Ω1 δ1 σ S1 H1 Ω1 δ1 σ S2 H2 ∧ H2 Da = some (.lst xs) ∧ S2 Da = none ∧ DqAll S2 xs acc, fun H2 a => ⟨_, by omega, rfl, hlt, a⟩, fun x H2 y => ?_⟩
      obtain ⟨S2, d, g2, s2, hd2, hx⟩ := yl x H2 y
      obtain ⟨k1, k2, k3⟩ := s2.keep Da _ hl hT0
      obtain ⟨ups, hg, hu, hb⟩ := turn i d acc hd2 hI
      obtain ⟨gw, sw⟩ := g2.wipe vs
      refine hg S2 H2 (wipe σ vs) x _ g2.sub hx fun us hus => ?_
      obtain ⟨g3, s3⟩ := Good.sets gw hus
      have keys : ∀ u ∈ us, u.1 ∈ vs := fun u hu2 => by
        have : u.1 ∈ ups.map (·.1) := by
          rw [← upOk_keys hus]
          exact List.mem_map_of_mem hu2
        obtain ⟨z, z1, z2⟩ := List.mem_map.mp this
        rw [← z2]
        exact hu z z1
      have offD : ∀ j, j ∉ vs → (setD (wipeD δ1 vs) ups)[j]? = δ1[j]? := fun j hj => by
        rw [setD_off ups _ (fun z hz (e : z.1 = j) => hj (by rw [← e]; exact hu z hz)), wipeD_off hj]
      have offV : ∀ j, j ∉ vs → (setV (wipe σ vs) us)[j]? = σ[j]? := fun j hj => by
        rw [setV_off us _ (fun z hz (e : z.1 = j) => hj (by rw [← e]; exact keys z hz)), wipe_off hj]
      refine ⟨wipe_eq (by rw [setV_len, wipe_length]) offV, ?_⟩
      -- what a state behind the block says
      have back : ∀ {S4 H4 : Hp}, Good P w Ω1 (setD (wipeD δ1 vs) ups) (setV (wipe σ vs) us) S4 H4 → Step Ω1 (setD (wipeD δ1 vs) ups) (setV (wipe σ vs) us) S2 H2 Ω1 (setD (wipeD δ1 vs) ups) (setV (wipe σ vs) us) S4 H4 →
          Good P w Ω1 δ1 σ S4 H4 ∧ Step Ω1 δ1 σ S2 H2 Ω1 δ1 σ S4 H4 := fun {S4 H4} g4 s4 =>
        ⟨g2.unwipe g4 s4.same offD offV hn, s4.same, fun b o hb n => by
          have st := (sw.trans s3).trans s4
          obtain ⟨z1, z2, z3⟩ := st.keep b o hb n
          exact ⟨z1, z2, fun t => z3 (t.imp id fun ⟨j, m⟩ => ⟨j, mine_off offD offV hn m⟩)⟩, s4.dom⟩
      refine hb _ S2 H2 g3 _ fun b Ω4 δ4 S4 H4 h4 g4 s4 => ?_
      obtain ⟨rfl, rfl, hyes, hno⟩ := h4
      obtain ⟨g5, s5⟩ := back g4 s4
      obtain ⟨l1, l2, l3⟩ := s5.keep Da _ k1 hT0
      cases b with
      | false =>
        rw [if_neg Bool.false_ne_true]
        exact ⟨S4, xs, acc, hno rfl, Nat.le_succ_of_le hacc, g5, (s'.trans s2).trans s5, l1, l2.trans (k2.trans hS), (hd.mono s2.same).mono s5.same⟩
      | true =>
        rw [if_pos rfl]
        refine hyes rfl _ S4 H4 g4 _ fun y r Ω6 δ6 S6 H6 h6 g6 s6 o6 => ?_
        obtain ⟨rfl, rfl, e, rfl, hI6⟩ := h6
        obtain ⟨g7, s7⟩ := back g6 (s4.trans s6)
        obtain ⟨m1, m2, m3⟩ := s7.keep Da _ k1 hT0
        have hS6 : S6 Da = none := m2.trans (k2.trans hS)
        have hd6 : DqAll S6 xs acc := (hd.mono s2.same).mono s7.same
        have st := (s'.trans s2).trans s7
        refine ⟨xs, m1, ?_, S6, _, acc ++ [e], hI6, by rw [List.length_append, List.length_singleton]; omega, g7.other hS6 hT0, ⟨st.same, fun b o hb n => ?_, fun b o hb => ?_⟩, upd_same, hS6, hd6.append (.cons o6 .nil)⟩
        · rw [hd6.length]
          omega
        · obtain ⟨z1, z2, z3⟩ := st.keep b o hb n
          exact ⟨(upd_ne (ne_of_none hb hD)).trans z1, z2, z3⟩
        · obtain ⟨u, z⟩ := st.dom b o hb
          exact ⟨u, (upd_ne (ne_of_none hb hD)).trans z⟩
    · have e : i = ds.length := by omega
      subst e
      refine .inl ⟨wk.stop Ω1 δ1 σ S' H' g' s'.same, ?_⟩
      exact q Da xs acc Ω1 δ1 S' H' (fin acc hacc hI) g' (s1.trans s') (s1.back hD) hl hS hT0 hd

/-! ### promises over data -/
/-- the heap has grown by new things alone -/
structure Grew (S H S' H' : Hp) : Prop where
  s : Same S S'
  sh : Same S' H'
  h : Same H H'
  at_ : ∀ p o, H p = some o → S' p = S p
theorem Grew.refl (e : Same S H) : Grew S H S H := ⟨Same.refl S, e, Same.refl H, fun _ _ _ => rfl⟩
theorem Grew.trans {S2 H2 : Hp} (a : Grew S H S1 H1) (b : Grew S1 H1 S2 H2) : Grew S H S2 H2 := ⟨a.s.trans b.s, b.sh, a.h.trans b.h, fun p o e => (b.at_ p o (a.h p o e)).trans (a.at_ p o e)⟩
theorem Good.grew (g : Good P w Ω δ σ S H) (r : Grew S H S1 H1) : Good P w Ω δ σ S1 H1 := g.grow r.s r.sh r.h r.at_
theorem Grew.step (r : Grew S H S1 H1) : Step Ω δ σ S H Ω δ σ S1 H1 := Step.grow r.s r.h r.at_
/-- the world: the heap at the entry stays as it was -/
def Wd.frm (S H : Hp) : Wd where
  F := fun p => ∃ o, H p = some o
  W := fun S' H' => Same S S' ∧ Same H H' ∧ ∀ p o, H p = some o → S' p = S p
  cl := fun S1 H1 S2 H2 q e k => ⟨q.1.trans e, fun p o h => by
    rw [(k p ⟨o, h⟩).2]
    exact q.2.1 p o h, fun p o h => (k p ⟨o, h⟩).1.trans (q.2.2 p o h)⟩
/-- a def of data: ι its arguments' type -/
def spX {ι : Type} (args : ι → List PyData) (pre : ι → Prop) (post : ι → PyData → Prop) : Sp := fun vs H Q _ => ∃ (i : ι) (S : Hp), Same S H ∧ DqAll S vs (args i) ∧ pre i ∧
  ∀ v d S' H', Grew S H S' H' → post i d → Dq S' v d → Q v H'
theorem spX_len {ι : Type} {args : ι → List PyData} {pre : ι → Prop} {post : ι → PyData → Prop} {n : Nat} (hl : ∀ i, (args i).length = n) : ∀ vs H Q E, spX args pre post vs H Q E → vs.length = n := fun vs H Q E ⟨i, S, _, h, _⟩ => by
  rw [h.length, hl]
def ini (N : List Str) (ds : List PyData) : List AS := ds.map AS.dat ++ List.replicate (N.length - ds.length) AS.un
theorem slots_ini {F : Addr → Prop} : ∀ {vs : List V} {ds : List PyData} {n : Nat}, DqAll S vs ds → ∀ (i : Nat) (a : AS), (ds.map AS.dat ++ List.replicate n AS.un)[i]? = some a → SlotOk P w F S H a ((vs.map some ++ List.replicate n none)[i]?.join)
  | _, _, n, .nil, i, a, e => by
    rw [List.map_nil, List.nil_append, List.getElem?_replicate] at e
    split at e
    · cases e
      trivial
    · cases e
  | _, _, n, .cons h t, 0, a, e => by
    rw [List.map_cons, List.cons_append, List.getElem?_cons_zero] at e
    cases e
    exact ⟨_, rfl, h⟩
  | _, _, n, .cons h t, i + 1, a, e => by
    rw [List.map_cons, List.cons_append, List.getElem?_cons_succ] at e
    have z := slots_ini (F := F) (n := n) t i a e
    rw [List.map_cons, List.cons_append, List.getElem?_cons_succ]
    exact z
theorem ini_notMine {ds : List PyData} {n i : Nat} {a : AS} (h : (ds.map AS.dat ++ List.replicate n AS.un)[i]? = some a) : a.mine = false := by
  have m := List.mem_of_getElem? h
  rcases List.mem_append.mp m with m | m
  · obtain ⟨d, _, rfl⟩ := List.mem_map.mp m
    rfl
  · rw [(List.mem_replicate.mp m).2]
    rfl
/-- the state at a def's entry, under the frame -/
theorem good_ini {N : List Str} {vs : List V} {ds : List PyData} (e : Same S H) (h : DqAll S vs ds) : Good P w (Wd.frm S H) (ini N ds) (start N vs) S H where
  sub := e
  wld := ⟨Same.refl S, Same.refl H, fun _ _ _ => rfl⟩
  fok := fun p hp => hp
  len := by
    show (vs.map some ++ List.replicate (N.length - vs.length) none).length = (ds.map AS.dat ++ List.replicate (N.length - ds.length) AS.un).length
    rw [List.length_append, List.length_append, List.length_map, List.length_map, List.length_replicate, List.length_replicate, h.length]
  slot := fun i a q => by
    show SlotOk P w _ S H a ((vs.map some ++ List.replicate (N.length - vs.length) none)[i]?.join)
    rw [h.length]
    exact slots_ini h i a q
  dist := fun i j q m _ => by
    obtain ⟨⟨a, e1, e2⟩, _⟩ := m
    rw [ini_notMine e1] at e2
    cases e2
/-- the body of such a def -/
theorem run_spX {ι : Type} {args : ι → List PyData} {pre : ι → Prop} {post : ι → PyData → Prop} {N : List Str} {ts : TS} {vs : List V} {Q : VK} {E : XK} (hsp : spX args pre post vs H Q E)
    (h : ∀ i S H, pre i → SE P w ts (Wd.frm S H) (ini N (args i)) ⟨fun Ω' _ => Ω' = Wd.frm S H ∧ post i .none, fun r Ω' => Ω' = Wd.frm S H ∧ ∃ d, r = .dat d ∧ post i d, fun _ _ => False, fun _ _ => False⟩) : ts { nx := fun _ H' => Q .non H', rt := Q } (start N vs) H := by
  obtain ⟨i, S, e, hv, hp, k⟩ := hsp
  have g := good_ini (P := P) (w := w) (N := N) e hv
  refine h i S H hp _ S H g _ ⟨fun Ω' δ' σ' S' H' ⟨a, b⟩ g' s' => ?_, fun v r Ω' δ' σ' S' H' ⟨a, d, er, b⟩ g' s' o => ?_, fun _ _ _ _ _ a _ _ => a.elim, fun _ _ _ _ _ a _ _ => a.elim⟩
  · subst a
    exact k .non .none S' H' ⟨g'.wld.1, g'.sub, g'.wld.2.1, g'.wld.2.2⟩ b .non
  · subst a er
    exact k v d S' H' ⟨g'.wld.1, g'.sub, g'.wld.2.1, g'.wld.2.2⟩ b o
theorem ee_call {ι : Type} {args : ι → List PyData} {pre : ι → Prop} {post : ι → PyData → Prop} {ta : TA} {E : XK} (h : EA P w ta Ω δ fun rs Ω1 δ1 => ∃ i, rs = (args i).map Rs.dat ∧ pre i ∧ ∀ d, post i d → R (.dat d) Ω1 δ1) : EE P w (tCall (spX args pre post) [] E ta) Ω δ R := fun σ S H g Q q =>
  h σ S H g _ fun vs rs Ω1 δ1 S1 H1 h1 g1 s1 o1 => by
    obtain ⟨i, rfl, hp, k⟩ := h1
    have a := dats_all o1
    show spX args pre post (vs ++ []) H1 Q E
    rw [List.append_nil]
    exact ⟨i, S1, g1.sub, a, hp, fun v d S' H' gr hd hv => q v (.dat d) Ω1 δ1 S' H' (k d hd) (g1.grew gr) (s1.trans gr.step) hv⟩

/-! ### fields -/
theorem ee_fld {f : Str} (h : EE P w te Ω δ fun r Ω1 δ1 => ∃ a C r', r = .raw (.ref a) ∧ Cls K C ∧ NoAttr K C f ∧ (∀ i, r' ≠ .own i) ∧ (∀ S H, Same S H → Ω1.W S H → ∃ dx fs v, H a = some (.ins C dx fs) ∧ fs.lookup f = some v ∧ ResOk [] S v r') ∧ R r' Ω1 δ1) : EE P w (tFld K te f) Ω δ R := fun σ S H g Q q =>
  h σ S H g _ fun x r1 Ω1 δ1 S1 H1 h1 g1 s1 o1 => by
    obtain ⟨a, C, r', rfl, hc, hn, ho, hW, k⟩ := h1
    obtain ⟨dx, fs, v, h2, h3, h4⟩ := hW S1 H1 g1.sub g1.wld
    cases (show x = .ref a from o1)
    refine ⟨a, C, dx, fs, v, rfl, h2, hc, hn, h3, q v r' Ω1 δ1 S1 H1 k g1 s1 ?_⟩
    cases r' with
    | dat d => exact h4
    | raw u => exact h4
    | own i => exact absurd rfl (ho i)
end
end D
set_option Elab.async false
set_option linter.all false
set_option maxRecDepth 100000
set_option maxHeartbeats 4000000
set_option autoImplicit false
namespace D
open PySem PySem.Spec PyProof.Rows L2
/-- a def that others call by its name -/
structure Cal (P : Program) (w : World) (K : PySem.W.Frag) (mg : Str → Option Value) (base : Heap) (k : Nat) (x : Str) (ps : List Str) (sp : Sp) : Prop where
  ex : ∃ f fd, FnOk P w K mg base CX0 k f fd ps sp ∧ mg x = some (.ref f) ∧ PySem.W.keepIn K (.ref f) = true ∧ Binds K fd ps []
theorem Cal.mono {P : Program} {w : World} {K : PySem.W.Frag} {mg : Str → Option Value} {base : Heap} {j k : Nat} {x : Str} {ps : List Str} {sp : Sp} (C : Cal P w K mg base j x ps sp) (h : j ≤ k) : Cal P w K mg base k x ps sp :=
  let ⟨f, fd, a, b⟩ := C.ex
  ⟨f, fd, a.mono h, b⟩
theorem pe_cal {X : Cx} {k : Nat} {x : Str} {ps : List Str} {sp : Sp} {p pos : Pos} {e : Expr} {es : List Expr} {t : TA} (C : Cal X.prog X.w X.K X.mg X.base k x ps sp) (hr : Room k X.A) (hg : Gl X x) (ha : PA X (e :: es) t)
    (hdb : (x == ("__debug__" : Str)) = false := by decide) (he : starEach (e :: es) X.env = (false, eval e X.env) :: starEach es X.env := by rfl) (hpl : (backTo pos (starEach es X.env)).any (·.1) = false := by rfl) :
    PE X (.Call (.Name x p) (e :: es) [] pos) (tCall sp [] E0 t) := by
  obtain ⟨f, fd, F, hm, hk, hb⟩ := C.ex
  exact pe_call F hr hg hm hk hb .nil pass0 ha hdb he hpl
section
variable {P : Program} {w : World} {K : PySem.W.Frag} {mg : Str → Option Value} {base : Heap}
abbrev FnP (K : PySem.W.Frag) (x qual : Str) (st : Stmt) (f : Addr) (fd : FuncData) : Prop := FunD K x qual (defArgs st) (defBody st) (defScope st) [] [] f fd
/-- the context of a def's body -/
abbrev bodyX (P : Program) (w : World) (K : PySem.W.Frag) (mg : Str → Option Value) (base : Heap) (N : List Str) (qual : Str) (st : Stmt) (f : Addr) (cdv : Value) (A : Around) (outer : List Env) (s : Shared) (H : Hp) (E : XK) : Cx := (cxOf CX0 P w K mg base N qual (defScope st) f cdv A outer s H E).nox
theorem def_ok {ι : Type} {args : ι → List PyData} {pre : ι → Prop} {post : ι → PyData → Prop} {x qual : Str} {st : Stmt} {f : Addr} {fd : FuncData} {N ps : List Str} {k : Nat} (F : FnP K x qual st f fd) (S : FnScope N ps (defScope st)) (hl : ∀ i, (args i).length = ps.length) {ts : TS}
    (hT : ∀ cdv A outer s H E, Room k (A.deeper (envOfC qual (defScope st) s.heap.objs.size f cdv)) → PSs (bodyX P w K mg base N qual st f cdv A outer s H E) (defBody st) ts)
    (h : ∀ i S H, pre i → SE P w ts (Wd.frm S H) (ini N (args i)) ⟨fun Ω' _ => Ω' = Wd.frm S H ∧ post i .none, fun r Ω' => Ω' = Wd.frm S H ∧ ∃ d, r = .dat d ∧ post i d, fun _ _ => False, fun _ _ => False⟩) : FnOk P w K mg base CX0 (k + 1) f fd ps (spX args pre post) :=
  F.ok S (spX_len hl) fun cdv A outer s H vs Q E hr hsp => ⟨ts, (hT cdv A outer s H E hr).nox, run_spX hsp h⟩
end
end D
set_option Elab.async false
set_option linter.all false
set_option maxRecDepth 100000
set_option maxHeartbeats 4000000
set_option autoImplicit false
/-! Natural numbers through the operators. -/
namespace D
open PySem L2
section
variable {P : Program} {w : World} {K : PySem.W.Frag} {Ω : Wd} {δ : List AS} {R : KR} {i j : Int} {a b : Nat}
theorem andN (a b : Nat) : Builtin.bitAnd (a : Int) (b : Int) = ((a &&& b : Nat) : Int) := by
  rw [PyProof.Rows.bitAnd_pp (Int.natCast_nonneg _) (Int.natCast_nonneg _), Int.toNat_natCast, Int.toNat_natCast]
theorem orN (a b : Nat) : Builtin.bitOr (a : Int) (b : Int) = ((a ||| b : Nat) : Int) := by
  rw [Bits.bitOr_pp (Int.natCast_nonneg _) (Int.natCast_nonneg _), Int.toNat_natCast, Int.toNat_natCast]
theorem xorN (a b : Nat) : Builtin.bitXor (a : Int) (b : Int) = ((a ^^^ b : Nat) : Int) := by
  rw [Bits.bitXor_pp (Int.natCast_nonneg _) (Int.natCast_nonneg _), Int.toNat_natCast, Int.toNat_natCast]
theorem shrN (a b : Nat) : (a : Int) / 2 ^ ((b : Int).toNat) = ((a >>> b : Nat) : Int) := by
  rw [Int.toNat_natCast, Nat.shiftRight_eq_div_pow, Int.natCast_ediv, Int.natCast_pow]
  rfl
theorem shlN (a b : Nat) : (a : Int) * 2 ^ ((b : Int).toNat) = ((a <<< b : Nat) : Int) := by
  rw [Int.toNat_natCast, Nat.shiftLeft_eq, Int.natCast_mul, Int.natCast_pow]
  rfl
theorem n_and (ha : i = (a : Int)) (hb : j = (b : Int)) (k : R (.dat (.int ((a &&& b : Nat) : Int))) Ω δ) : O2 P w (rI0 fun i j => .int (Builtin.bitAnd i j)) (.dat (.int i)) (.dat (.int j)) Ω δ R := by
  subst ha hb
  exact o2_i0 (by rw [andN]; exact k)
theorem n_or (ha : i = (a : Int)) (hb : j = (b : Int)) (k : R (.dat (.int ((a ||| b : Nat) : Int))) Ω δ) : O2 P w (rI0 fun i j => .int (Builtin.bitOr i j)) (.dat (.int i)) (.dat (.int j)) Ω δ R := by
  subst ha hb
  exact o2_i0 (by rw [orN]; exact k)
theorem n_xor (ha : i = (a : Int)) (hb : j = (b : Int)) (k : R (.dat (.int ((a ^^^ b : Nat) : Int))) Ω δ) : O2 P w (rI0 fun i j => .int (Builtin.bitXor i j)) (.dat (.int i)) (.dat (.int j)) Ω δ R := by
  subst ha hb
  exact o2_i0 (by rw [xorN]; exact k)
theorem n_add (ha : i = (a : Int)) (hb : j = (b : Int)) (k : R (.dat (.int ((a + b : Nat) : Int))) Ω δ) : O2 P w (rI0 fun i j => .int (i + j)) (.dat (.int i)) (.dat (.int j)) Ω δ R := by
  subst ha hb
  exact o2_i0 (by rw [← Int.natCast_add]; exact k)
theorem n_sub (ha : i = (a : Int)) (hb : j = (b : Int)) (h : b ≤ a) (k : R (.dat (.int ((a - b : Nat) : Int))) Ω δ) : O2 P w (rI0 fun i j => .int (i - j)) (.dat (.int i)) (.dat (.int j)) Ω δ R := by
  subst ha hb
  exact o2_i0 (by rw [← Int.ofNat_sub h]; exact k)
theorem n_mul (ha : i = (a : Int)) (hb : j = (b : Int)) (h : a < 18446744073709551616) (k : R (.dat (.int ((a * b : Nat) : Int))) Ω δ) : O2 P w (rI CMul fun i j => .int (i * j)) (.dat (.int i)) (.dat (.int j)) Ω δ R := by
  subst ha hb
  exact o2_i (.inl ⟨by omega, by omega⟩) (by rw [← Int.natCast_mul]; exact k)
theorem n_shr (ha : i = (a : Int)) (hb : j = (b : Int)) (k : R (.dat (.int ((a >>> b : Nat) : Int))) Ω δ) : O2 P w (rI (fun _ j => 0 ≤ j) fun i j => .int (i / 2 ^ j.toNat)) (.dat (.int i)) (.dat (.int j)) Ω δ R := by
  subst ha hb
  exact o2_i (Int.natCast_nonneg _) (by rw [shrN]; exact k)
theorem n_shl (ha : i = (a : Int)) (hb : j = (b : Int)) (h1 : a < 18446744073709551616) (h2 : b ≤ 1000000) (k : R (.dat (.int ((a <<< b : Nat) : Int))) Ω δ) : O2 P w (rI CPow fun i j => .int (i * 2 ^ j.toNat)) (.dat (.int i)) (.dat (.int j)) Ω δ R := by
  subst ha hb
  exact o2_i ⟨Int.natCast_nonneg _, by omega, by rw [Int.natAbs_natCast]; exact h1⟩ (by rw [shlN]; exact k)
theorem n_lt (ha : i = (a : Int)) (hb : j = (b : Int)) (k : R (.dat (.bool (decide (a < b)))) Ω δ) : O2 P w (rI0 fun i j => .bl (decide (i < j))) (.dat (.int i)) (.dat (.int j)) Ω δ R := by
  subst ha hb
  exact o2_b0 (by rw [show decide ((a : Int) < (b : Int)) = decide (a < b) by congr 1; exact propext Int.ofNat_lt]; exact k)
theorem n_gt (ha : i = (a : Int)) (hb : j = (b : Int)) (k : R (.dat (.bool (decide (b < a)))) Ω δ) : O2 P w (rI0 fun i j => .bl (decide (j < i))) (.dat (.int i)) (.dat (.int j)) Ω δ R := by
  subst ha hb
  exact o2_b0 (by rw [show decide ((b : Int) < (a : Int)) = decide (b < a) by congr 1; exact propext Int.ofNat_lt]; exact k)
theorem n_eq (ha : i = (a : Int)) (hb : j = (b : Int)) (k : R (.dat (.bool (decide (a = b)))) Ω δ) : O2 P w (rEqD K) (.dat (.int i)) (.dat (.int j)) Ω δ R := by
  subst ha hb
  exact o2_eqI (by rw [show decide ((a : Int) = (b : Int)) = decide (a = b) by congr 1; exact propext Int.ofNat_inj]; exact k)
theorem n_ne (ha : i = (a : Int)) (hb : j = (b : Int)) (k : R (.dat (.bool (!decide (a = b)))) Ω δ) : O2 P w (rNeD K) (.dat (.int i)) (.dat (.int j)) Ω δ R := by
  subst ha hb
  exact o2_neI (by rw [show decide ((a : Int) = (b : Int)) = decide (a = b) by congr 1; exact propext Int.ofNat_inj]; exact k)
theorem n_ixL {ds : List PyData} {d : PyData} (hb : j = (b : Int)) (h : ds[b]? = some d) (k : R (.dat d) Ω δ) : O2 P w (rIxL K) (.dat (.list ds)) (.dat (.int j)) Ω δ R := o2_ixL hb h k
theorem n_ixT {ds : List PyData} {d : PyData} (hb : j = (b : Int)) (h : ds[b]? = some d) (k : R (.dat d) Ω δ) : O2 P w (rIxT K) (.dat (.tuple ds)) (.dat (.int j)) Ω δ R := o2_ixT hb h k
theorem et_val {te : TE} {RT : Bool → Wd → List AS → Prop} (h : EE P w te Ω δ fun r Ω1 δ1 => ∃ b, r = .dat (.bool b) ∧ RT b Ω1 δ1) : ET P w (tB te) Ω δ RT := et_B h
theorem ee_lit {n : Nat} (k : R (.dat (.int ((OfNat.ofNat n : Nat) : Int))) Ω δ) : EE P w (tC (.int (OfNat.ofNat n))) Ω δ R := ee_int k
theorem room65 {A : Around} {k : Nat} (hr : Room k A) : A.units + 65 < cLine := by
  have := hr.un
  omega
abbrev nI (n : Nat) : PyData := .int (n : Int)
abbrev nL (ns : List Nat) : PyData := .list (ns.map nI)
abbrev nT (ns : List Nat) : PyData := .tuple (ns.map nI)
end
/-- the names of the top that the bodies lean on -/
structure Fx (mg : Str → Option Value) : Prop where
  abs : mg "abs" = none
  enumerate : mg "enumerate" = none
  int : mg "int" = none
  isinstance : mg "isinstance" = none
  len : mg "len" = none
  list : mg "list" = none
  min : mg "min" = none
  range : mg "range" = none
  reversed : mg "reversed" = none
  sorted : mg "sorted" = none
  tuple : mg "tuple" = none
  zip : mg "zip" = none
  NOT : ∃ t, mg "NOT" = some (.int 1 t)
  SAME : ∃ t, mg "SAME" = some (.int 2 t)
end D
set_option Elab.async false
set_option linter.all false
set_option maxRecDepth 100000
set_option maxHeartbeats 4000000
set_option autoImplicit false
/-! Comprehensions whose turns are functions of the place. -/
namespace D
open PySem L2
section
variable {P : Program} {w : World} {K : PySem.W.Frag} {Ω : Wd} {δ : List AS} {R : KR} {RN : List PyData → Wd → List AS → Prop} {ta tb te : TE} {tt tu : TT}
def nmB (δ : List AS) (vs : List Nat) : Bool := vs.all fun j => match δ[j]? with
  | some a => !a.mine
  | none => true
theorem nm_of {vs : List Nat} (h : nmB δ vs = true) : NotMine δ vs := fun j hj a ha => by
  have z := List.all_eq_true.mp h j hj
  rw [ha] at z
  simpa using z
def insB (ups : Ups) (vs : List Nat) : Bool := ups.all fun u => vs.contains u.1
theorem ins_of {ups : Ups} {vs : List Nat} (h : insB ups vs = true) : ∀ u ∈ ups, u.1 ∈ vs := fun u hu => by
  have z := List.all_eq_true.mp h u hu
  simpa using z
theorem range_snoc_map (f : Nat → PyData) (i : Nat) : (List.range i).map f ++ [f i] = (List.range (i + 1)).map f := by
  rw [List.range_succ, List.map_append]
  rfl
/-- each turn gives f of its place -/
theorem en_map {wi : TI} {g : TG} {vs : List Nat} (h : ES P w wi Ω δ fun ds Ω1 δ1 => nmB δ1 vs = true ∧ ds.length < sizeLine ∧ ∃ f : Nat → PyData,
    (∀ i d, ds[i]? = some d → ∃ ups, GS g d ups ∧ insB ups vs = true ∧ EE P w te Ω1 (setD (wipeD δ1 vs) ups) fun r Ω3 δ3 => Ω3 = Ω1 ∧ δ3 = setD (wipeD δ1 vs) ups ∧ r = .dat (f i)) ∧
    RN ((List.range ds.length).map f) Ω1 δ1) : EN P w (tLc wi g tYes te vs) Ω δ RN :=
  en_lc fun σ S H gd Q q => h σ S H gd Q fun J ds Ω1 δ1 S1 H1 ⟨hn, hz, f, turn, fin⟩ g1 s1 wk => q J ds Ω1 δ1 S1 H1 ⟨nm_of hn, hz, fun i acc => acc = (List.range i).map f, rfl, fun i d acc hd ha => by
    obtain ⟨ups, e1, e2, e3⟩ := turn i d hd
    refine ⟨ups, e1, ins_of e2, et_yes ⟨rfl, rfl, fun _ => ?_, fun z => nomatch z⟩⟩
    refine e3.imp fun r Ω3 δ3 ⟨z1, z2, z3⟩ => ⟨z1, z2, _, z3, ?_⟩
    rw [ha]
    exact range_snoc_map f i, fun acc _ ha => by rw [ha]; exact fin⟩ g1 s1 wk
/-- each turn is kept by its place's t, gives f of its place -/
theorem en_filt {wi : TI} {g : TG} {vs : List Nat} (h : ES P w wi Ω δ fun ds Ω1 δ1 => nmB δ1 vs = true ∧ ds.length < sizeLine ∧ ∃ (t : Nat → Bool) (f : Nat → PyData),
    (∀ i d, ds[i]? = some d → ∃ ups, GS g d ups ∧ insB ups vs = true ∧ ET P w tt Ω1 (setD (wipeD δ1 vs) ups) fun b Ω2 δ2 => Ω2 = Ω1 ∧ δ2 = setD (wipeD δ1 vs) ups ∧ b = t i ∧
      (t i = true → EE P w te Ω1 (setD (wipeD δ1 vs) ups) fun r Ω3 δ3 => Ω3 = Ω1 ∧ δ3 = setD (wipeD δ1 vs) ups ∧ r = .dat (f i))) ∧
    RN (((List.range ds.length).filter t).map f) Ω1 δ1) : EN P w (tLc wi g tt te vs) Ω δ RN :=
  en_lc fun σ S H gd Q q => h σ S H gd Q fun J ds Ω1 δ1 S1 H1 ⟨hn, hz, t, f, turn, fin⟩ g1 s1 wk => q J ds Ω1 δ1 S1 H1 ⟨nm_of hn, hz, fun i acc => acc = ((List.range i).filter t).map f, rfl, fun i d acc hd ha => by
    obtain ⟨ups, e1, e2, e3⟩ := turn i d hd
    refine ⟨ups, e1, ins_of e2, fun σ' S' H' g' Q' q' => e3 σ' S' H' g' Q' fun b Ω2 δ2 S2 H2 ⟨z1, z2, z3, z4⟩ => q' b Ω2 δ2 S2 H2 ⟨z1, z2, fun hb => ?_, fun hb => ?_⟩⟩
    · subst z1 z2
      refine (z4 (z3.symm.trans hb)).imp fun r Ω3 δ3 ⟨y1, y2, y3⟩ => ⟨y1, y2, _, y3, ?_⟩
      show acc ++ [f i] = ((List.range (i + 1)).filter t).map f
      rw [ha, List.range_succ, List.filter_append, List.map_append, List.filter_cons, if_pos (z3.symm.trans hb)]
      rfl
    · show acc = ((List.range (i + 1)).filter t).map f
      rw [ha, List.range_succ, List.filter_append, List.map_append, List.filter_cons, if_neg (by rw [← z3, hb]; decide)]
      show _ = _ ++ []
      rw [List.append_nil], fun acc _ ha => by rw [ha]; exact fin⟩ g1 s1 wk
theorem map_range_get {ds : List PyData} {f : Nat → PyData} {n : Nat} (hn : ds.length = n) (h : ∀ i d, ds[i]? = some d → f i = d) : (List.range n).map f = ds := by
  subst hn
  refine List.ext_getElem? fun i => ?_
  rw [List.getElem?_map]
  by_cases hi : i < ds.length
  · rw [List.getElem?_range hi, List.getElem?_eq_getElem hi]
    exact congrArg some (h i _ (List.getElem?_eq_getElem hi))
  · rw [List.getElem?_eq_none (by rw [List.length_range]; omega), List.getElem?_eq_none (by omega)]
    rfl
end
end D
set_option Elab.async false
set_option linter.all false
set_option maxRecDepth 100000
set_option maxHeartbeats 4000000
set_option autoImplicit false
/-! Lists of numbers: in, index, slices, sorted. -/
namespace D
open PySem L2
section
variable {P : Program} {w : World} {K : PySem.W.Frag} {Ω : Wd} {δ : List AS} {R : KR} {RN : List PyData → Wd → List AS → Prop} {ta tb te : TE} {tt tu : TT} {S H : Hp}
abbrev cI (m : Nat) : Int := (m : Int)
theorem cutD_take (ds : List PyData) (k : Nat) : cutD ds none (some (k : Int)) = ds.take k := by
  unfold cutD
  rw [HT.sIx_none, HT.sIx_nat, List.drop_zero, Nat.sub_zero]
  by_cases h : k ≤ ds.length
  · rw [Nat.min_eq_left h]
  · rw [Nat.min_eq_right (by omega), List.take_of_length_le (by omega), List.take_of_length_le (by omega)]
theorem cutD_drop (ds : List PyData) (k : Nat) : cutD ds (some (k : Int)) none = ds.drop k := by
  unfold cutD
  rw [HT.sIx_none, HT.sIx_nat]
  by_cases h : k ≤ ds.length
  · rw [Nat.min_eq_left h, List.take_of_length_le (by rw [List.length_drop]; omega)]
  · rw [Nat.min_eq_right (by omega), List.drop_of_length_le (by omega), List.drop_of_length_le (by omega), List.take_nil]
theorem canLay_ints : ∀ ns : List Nat, PyData.canLayAll0 (ns.map nI) = true
  | [] => by simp [PyData.canLayAll0]
  | n :: ns => by simp [PyData.canLayAll0, PyData.canLay0, canLay_ints ns]
theorem depth_ints : ∀ ns : List Nat, PyData.depthAll (ns.map nI) = 0
  | [] => by simp [PyData.depthAll]
  | n :: ns => by simp [PyData.depthAll, PyData.depth, depth_ints ns]
theorem shaped_nL (ns : List Nat) : SeqAt.shaped (nL ns) = true := by
  show (PyData.canLay0 (.list (ns.map nI)) && decide (PyData.depth (.list (ns.map nI)) ≤ 64)) = true
  rw [Bool.and_eq_true]
  exact ⟨by simp only [PyData.canLay0]; exact canLay_ints ns, decide_eq_true (by simp only [PyData.depth, depth_ints]; omega)⟩
theorem any_nL (x : Nat) : ∀ ns : List Nat, ((ns.map nI).any fun z => PyData.eqv z (nI x)) = decide (x ∈ ns)
  | [] => by simp
  | n :: ns => by
    rw [List.map_cons, List.any_cons, any_nL x ns]
    have e : PyData.eqv (nI n) (nI x) = decide (n = x) := by
      show PyData.eqv (.int (n : Int)) (.int (x : Int)) = _
      rw [PyData.eqv]
      by_cases h : n = x <;> simp [h, Int.ofNat_inj]
    rw [e]
    by_cases h : n = x
    · simp [h]
    · have h' : ¬ x = n := fun z => h z.symm
      simp [h, h']
theorem n_in {x : Nat} {ns : List Nat} (k : R (.dat (.bool (decide (x ∈ ns)))) Ω δ) : O2 P w (rInD K) (.dat (nI x)) (.dat (nL ns)) Ω δ R := o2_inD rfl (shaped_nL ns) (by
  rw [any_nL]
  exact k)
theorem ee_index {t : TA} (h : EE P w te Ω δ fun r Ω1 δ1 => ∃ ns : List Nat, r = .dat (nL ns) ∧ EA P w t Ω1 δ1 fun rs Ω2 δ2 => ∃ n : Nat, rs = [.dat (nI n)] ∧ n ∈ ns ∧ R (.dat (nI (ns.idxOf n))) Ω2 δ2) : EE P w (tBM K "list" (rIndex K) te t) Ω δ R := fun σ S H g Q q =>
  h σ S H g _ fun x r Ω1 δ1 S1 H1 h1 g1 s1 o1 => by
    obtain ⟨ns, rfl, h1⟩ := h1
    obtain ⟨a, xs, rfl, k1, k2⟩ := Dq.lst_inv o1
    refine ⟨.inl ⟨rfl, xs, SqL.of (g1.sub _ _ k1)⟩, ?_⟩
    refine h1 σ S1 H1 g1 _ fun vs rs Ω2 δ2 S2 H2 h2 g2 s2 o2 => ?_
    obtain ⟨n, rfl, hn, k⟩ := h2
    obtain ⟨v, rfl, o⟩ := one_of o2
    rw [Dq.int_inv o]
    have e0 : ns.map nI = (ns.map cI).map PyData.int := by
      rw [List.map_map]
      rfl
    have e1 : xs = (ns.map cI).map V.int := DqAll.ints (by
      rw [← e0]
      exact k2)
    have at_ : ∀ m z, xs[m]? = some z → ∃ u : Nat, ns[m]? = some u ∧ z = V.int (u : Int) := fun m z hz => by
      rw [e1, List.map_map, List.getElem?_map] at hz
      obtain ⟨u, hu, rfl⟩ := Option.map_eq_some_iff.mp hz
      exact ⟨u, hu, rfl⟩
    have hlt := List.idxOf_lt_length_of_mem hn
    have hget : ns[ns.idxOf n]? = some n := by
      rw [List.getElem?_eq_getElem hlt, List.getElem_idxOf hlt]
    refine ⟨a, xs, .int (n : Int), ns.idxOf n, .int (n : Int), rfl, rfl, SqL.of (g2.sub _ _ (s2.same _ _ k1)), rfl, ?_, ?_, ?_, fun m z' hm hz => ?_, q _ _ Ω2 δ2 S2 H2 k g2 (s1.trans s2) (.int _)⟩
    · rw [e1]
      exact List.all_eq_true.mpr fun z hz => by
        obtain ⟨u, _, rfl⟩ := List.mem_map.mp hz
        rfl
    · rw [e1, List.map_map, List.getElem?_map, hget]
      rfl
    · show ((n : Int) == (n : Int)) = true
      simp
    · obtain ⟨u, hu, rfl⟩ := at_ m z' hz
      have hne : u ≠ n := fun e => by
        obtain ⟨hml, hme⟩ := List.getElem?_eq_some_iff.mp hu
        have z := List.not_of_lt_findIdx (p := fun y => y == n) hm
        rw [hme, e] at z
        simp at z
      show ((u : Int) == (n : Int)) = false
      simp [Int.ofNat_inj, hne]
/-! ### sorted -/
theorem cn_sortedI {ns : List Nat} (k : ∀ ms : List Nat, ms.Perm ns → ms.Pairwise (· ≤ ·) → RN (ms.map nI) Ω δ) : CN P w (rSortedI K) [.dat (nL ns)] Ω δ RN := fun σ S H g vs o Q q => by
  obtain ⟨v, rfl, o'⟩ := one_of o
  obtain ⟨a, xs, rfl, k1, k2⟩ := Dq.lst_inv o'
  have e0 : ns.map nI = (ns.map cI).map PyData.int := by
    rw [List.map_map]
    rfl
  have e1 : xs = (ns.map cI).map V.int := DqAll.ints (by
    rw [← e0]
    exact k2)
  refine ⟨a, ns.map cI, rfl, SqL.of (by rw [← e1]; exact g.sub _ _ k1), fun zs p hp hs hn => ?_⟩
  have hnat : ∃ ms : List Nat, zs = ms.map cI := by
    refine ⟨zs.map Int.toNat, ?_⟩
    rw [List.map_map]
    refine (List.map_congr_left fun z hz => ?_).trans (List.map_id zs) |>.symm
    have hz2 := hp.mem_iff.mp hz
    obtain ⟨m, _, rfl⟩ := List.mem_map.mp hz2
    rfl
  obtain ⟨ms, rfl⟩ := hnat
  have inj : Function.Injective (cI) := fun x y e => Int.ofNat_inj.mp e
  have hperm : ms.Perm ns := by
    have z := hp.map Int.toNat
    rw [List.map_map, List.map_map] at z
    have id1 : ∀ l : List Nat, l.map (Int.toNat ∘ cI) = l := fun l => by
      refine (List.map_congr_left fun z _ => ?_).trans (List.map_id l)
      exact Int.toNat_natCast z
    rw [id1, id1] at z
    exact z
  have hpw : ms.Pairwise (· ≤ ·) := by
    rw [List.pairwise_map] at hs
    exact hs.imp fun h => Int.ofNat_le.mp h
  have hd : DqAll S ((ms.map cI).map V.int) (ms.map nI) := by
    have z := DqAll.ofInts (H := S) (ms.map cI)
    have e2 : (ms.map cI).map PyData.int = ms.map nI := by
      rw [List.map_map]
      rfl
    rw [e2] at z
    exact z
  exact en_lay q g hd (k ms hperm hpw) p hn
abbrev nP (q : Nat × Nat) : PyData := .tuple [nI q.1, nI q.2]
def lexN (p q : Nat × Nat) : Prop := p.1 < q.1 ∨ (p.1 = q.1 ∧ p.2 ≤ q.2)
theorem pairs_inv {S : Hp} : ∀ {ps : List (Nat × Nat)} {xs : List V}, DqAll S xs (ps.map nP) → ∀ x ∈ xs, ∃ t p, x = .ref t ∧ p ∈ ps ∧ S t = some (.tup [.int (p.1 : Int), .int (p.2 : Int)])
  | [], _, h, x, hx => by
    cases h
    cases hx
  | p :: ps, _, h, x, hx => by
    rw [List.map_cons] at h
    cases h with
    | cons h t =>
      rcases List.mem_cons.mp hx with rfl | hx
      · obtain ⟨a, ys, rfl, h1, h2⟩ := Dq.tup_inv h
        cases h2 with
        | cons ha h2 => cases h2 with
          | cons hb h2 =>
            cases h2
            rw [Dq.int_inv ha, Dq.int_inv hb] at h1
            exact ⟨a, p, rfl, List.mem_cons_self, h1⟩
      · obtain ⟨a, q, e1, e2, e3⟩ := pairs_inv t x hx
        exact ⟨a, q, e1, List.mem_cons_of_mem _ e2, e3⟩
/-- the pair that stands at a value -/
def keyAt (S : Hp) : V → Int × Int
  | .ref t => match S t with
    | some (.tup [.int i, .int j]) => (i, j)
    | _ => (0, 0)
  | _ => (0, 0)
theorem keyAt_all {S : Hp} : ∀ {ps : List (Nat × Nat)} {xs : List V}, DqAll S xs (ps.map nP) → xs.map (keyAt S) = ps.map fun p => ((p.1 : Int), (p.2 : Int))
  | [], _, h => by
    cases h
    rfl
  | p :: ps, _, h => by
    rw [List.map_cons] at h
    cases h with
    | cons h t =>
      obtain ⟨a, ys, rfl, h1, h2⟩ := Dq.tup_inv h
      cases h2 with
      | cons ha h2 => cases h2 with
        | cons hb h2 =>
          cases h2
          rw [Dq.int_inv ha, Dq.int_inv hb] at h1
          rw [List.map_cons, List.map_cons, keyAt_all t]
          show (match S a with
            | some (.tup [.int i, .int j]) => (i, j)
            | _ => (0, 0)) :: _ = _
          rw [h1]
theorem cn_sortedPO {ps : List (Nat × Nat)} (k : ∀ qs : List (Nat × Nat), qs.Perm ps → qs.Pairwise lexN → RN (qs.map nP) Ω δ) : CN P w (rSortedPO K) [.dat (.list (ps.map nP))] Ω δ RN := fun σ S H g vs o Q q => by
  obtain ⟨v, rfl, o'⟩ := one_of o
  obtain ⟨a, xs, rfl, k1, k2⟩ := Dq.lst_inv o'
  have hk := keyAt_all k2
  have pk : ∀ x ∈ xs, ∃ t, x = .ref t ∧ S t = some (.tup [.int (keyAt S x).1, .int (keyAt S x).2]) := fun x hx => by
    obtain ⟨t, p, rfl, _, e⟩ := pairs_inv k2 x hx
    refine ⟨t, rfl, ?_⟩
    have e2 : keyAt S (.ref t) = ((p.1 : Int), (p.2 : Int)) := by
      show (match S t with
        | some (.tup [.int i, .int j]) => (i, j)
        | _ => (0, 0)) = _
      rw [e]
    rw [e2]
    exact e
  refine ⟨a, xs, keyAt S, rfl, SqL.of (g.sub _ _ k1), fun x hx => ?_, fun ys p hs hb hn => ?_⟩
  · obtain ⟨t, e1, e2⟩ := pk x hx
    exact ⟨t, e1, g.sub _ _ e2⟩
  · have hm : ys.map (keyAt S) = ((ys.map (keyAt S)).map fun z => (z.1.toNat, z.2.toNat)).map fun p => ((p.1 : Int), (p.2 : Int)) := by
      rw [List.map_map]
      refine ((List.map_congr_left fun z hz => ?_).trans (List.map_id _)).symm
      obtain ⟨y, hy, rfl⟩ := List.mem_map.mp hz
      have hy2 : y ∈ xs := hb.perm.mem_iff.mp hy
      have hz2 : keyAt S y ∈ xs.map (keyAt S) := List.mem_map_of_mem hy2
      rw [hk] at hz2
      obtain ⟨r, _, er⟩ := List.mem_map.mp hz2
      show (((keyAt S y).1.toNat : Int), ((keyAt S y).2.toNat : Int)) = keyAt S y
      rw [← er]
      rfl
    generalize hq : ((ys.map (keyAt S)).map fun z => (z.1.toNat, z.2.toNat)) = qs at hm
    have hd : ∀ {zs : List V} {rs : List (Nat × Nat)}, (∀ z ∈ zs, ∃ t, z = .ref t ∧ S t = some (.tup [.int (keyAt S z).1, .int (keyAt S z).2])) → zs.map (keyAt S) = rs.map (fun p => ((p.1 : Int), (p.2 : Int))) → DqAll S zs (rs.map nP) := by
      intro zs
      induction zs with
      | nil =>
        intro rs _ e
        cases rs with
        | nil => exact .nil
        | cons r rs => simp at e
      | cons z zs ih =>
        intro rs hz e
        cases rs with
        | nil => simp at e
        | cons r rs =>
          rw [List.map_cons, List.map_cons] at e
          injection e with e1 e2
          obtain ⟨t, rfl, h2⟩ := hz z List.mem_cons_self
          rw [e1] at h2
          exact .cons (.tup h2 (.cons (.int _) (.cons (.int _) .nil))) (ih (fun y hy => hz y (List.mem_cons_of_mem _ hy)) e2)
    have inj : ∀ {l m : List (Nat × Nat)}, (l.map fun p => ((p.1 : Int), (p.2 : Int))).Perm (m.map fun p => ((p.1 : Int), (p.2 : Int))) → l.Perm m := fun {l m} h => by
      have z := h.map fun z : Int × Int => (z.1.toNat, z.2.toNat)
      rw [List.map_map, List.map_map] at z
      have id1 : ∀ l : List (Nat × Nat), l.map ((fun z : Int × Int => (z.1.toNat, z.2.toNat)) ∘ fun p : Nat × Nat => ((p.1 : Int), (p.2 : Int))) = l := fun l => (List.map_congr_left fun z _ => rfl).trans (List.map_id l)
      rw [id1, id1] at z
      exact z
    have hp : qs.Perm ps := inj (by
      rw [← hm, ← hk]
      exact hb.perm.map _)
    have hpw : qs.Pairwise lexN := by
      have z : (ys.map (keyAt S)).Pairwise fun x y => SrtO.lexB y x = false := by
        rw [List.pairwise_map]
        exact hs
      rw [hm, List.pairwise_map] at z
      refine z.imp fun {x y} h => ?_
      have h2 : ¬ SrtO.lexB ((y.1 : Int), (y.2 : Int)) ((x.1 : Int), (x.2 : Int)) = true := by rw [h]; decide
      rw [SrtO.lexB_iff] at h2
      unfold lexN
      simp only at h2
      omega
    exact en_lay q g (hd (fun y hy => pk y (hb.perm.mem_iff.mp hy)) hm) (k qs hp hpw) p hn
/-! ### list(range(..)) -/
theorem en_listRg1 (h : EE P w te Ω δ fun r Ω1 δ1 => ∃ n : Nat, r = .dat (nI n) ∧ n ≤ 1000000 ∧ RN ((List.range n).map nI) Ω1 δ1) : EN P w (tLstRg (tRg1 te)) Ω δ RN := fun σ S H g Q q =>
  h σ S H g _ fun x r Ω1 δ1 S1 H1 h1 g1 s1 o1 => by
    obtain ⟨n, rfl, hn, k⟩ := h1
    rw [Dq.int_inv o1]
    refine ⟨_, rfl, RgOk.of_le (by omega) (by omega) (by omega) (by omega), ?_⟩
    have e : rgV 0 (n : Int) = ((List.range n).map cI).map V.int := by
      unfold rgV
      rw [List.map_map, show ((n : Int) - 0).toNat = n by omega]
      exact List.map_congr_left fun i _ => by
        show V.int (0 + (i : Int)) = V.int (i : Int)
        rw [Int.zero_add]
    have e2 : (List.range n).map nI = ((List.range n).map cI).map PyData.int := by
      rw [List.map_map]
      rfl
    rw [e]
    exact en_lay (PostN.step q s1) g1 (by rw [e2]; exact DqAll.ofInts _) k
theorem en_listRg2 (h : EE P w ta Ω δ fun r1 Ω1 δ1 => EE P w tb Ω1 δ1 fun r2 Ω2 δ2 => ∃ lo n : Nat, r1 = .dat (nI lo) ∧ r2 = .dat (nI (lo + n)) ∧ lo + n ≤ 1000000 ∧ RN ((List.range n).map fun i => nI (lo + i)) Ω2 δ2) : EN P w (tLstRg (tRg2 ta tb)) Ω δ RN := fun σ S H g Q q =>
  h σ S H g _ fun x r1 Ω1 δ1 S1 H1 h1 g1 s1 o1 => h1 σ S1 H1 g1 _ fun y r2 Ω2 δ2 S2 H2 h2 g2 s2 o2 => by
    obtain ⟨lo, n, rfl, rfl, hn, k⟩ := h2
    rw [Dq.int_inv o1, Dq.int_inv o2]
    refine ⟨_, _, rfl, rfl, RgOk.of_le (by omega) (by omega) (by omega) (by omega), ?_⟩
    have e : rgV (lo : Int) ((lo + n : Nat) : Int) = ((List.range n).map fun m => ((lo + m : Nat) : Int)).map V.int := by
      unfold rgV
      rw [List.map_map, show (((lo + n : Nat) : Int) - (lo : Int)).toNat = n by omega]
      exact List.map_congr_left fun i _ => by
        show V.int ((lo : Int) + (i : Int)) = V.int ((lo + i : Nat) : Int)
        rw [Int.natCast_add]
    have e2 : ((List.range n).map fun i => nI (lo + i)) = ((List.range n).map fun m => ((lo + m : Nat) : Int)).map PyData.int := by
      rw [List.map_map]
      rfl
    rw [e]
    exact en_lay (PostN.step (PostN.step q s1) s2) g2 (by rw [e2]; exact DqAll.ofInts _) k
end
end D
set_option Elab.async false
set_option linter.all false
set_option maxRecDepth 100000
set_option maxHeartbeats 4000000
set_option autoImplicit false
namespace G
open PySem PySem.Spec PyProof.Rows L2 D M
local macro_rules | `(tactic| walk_at "d1") => `(tactic| first
  | (with_reducible refine se_seq ?_)
  | (with_reducible refine se_next ?_)
  | (with_reducible refine se_set ?_)
  | (with_reducible refine se_retD ?_)
  | (with_reducible refine se_if ?_)
  | (with_reducible refine ee_lit ?_)
  | (with_reducible refine ee_int ?_)
  | (with_reducible refine ee_str ?_)
  | (with_reducible refine ee_bl ?_)
  | (with_reducible refine ee_non ?_)
  | (with_reducible refine ee_op ?_)
  | (with_reducible refine ee_tup ?_)
  | (with_reducible refine ee_cb ?_)
  | (with_reducible refine et_test ?_)
  | (with_reducible refine ea_nil ?_)
  | (with_reducible refine ea_cons ?_)
  | ((with_reducible refine' ee_dat ?e ?_); (case e => rfl))
  | ((with_reducible refine' ee_own ?e ?_); (case e => rfl))
  | ((with_reducible refine' ee_raw ?e ?_); (case e => rfl))
  | ((with_reducible refine' n_and ?ha ?hb ?_); (case ha => rfl); (case hb => rfl))
  | ((with_reducible refine' n_or ?ha ?hb ?_); (case ha => rfl); (case hb => rfl))
  | ((with_reducible refine' n_xor ?ha ?hb ?_); (case ha => rfl); (case hb => rfl))
  | ((with_reducible refine' n_add ?ha ?hb ?_); (case ha => rfl); (case hb => rfl))
  | ((with_reducible refine' n_sub ?ha ?hb ?hc ?_); (case ha => rfl); (case hb => rfl); (case hc => first | omega | assumption | decide))
  | ((with_reducible refine' n_mul ?ha ?hb ?hc ?_); (case ha => rfl); (case hb => rfl); (case hc => first | omega | assumption | decide))
  | ((with_reducible refine' n_shr ?ha ?hb ?_); (case ha => rfl); (case hb => rfl))
  | ((with_reducible refine' n_shl ?ha ?hb ?hc ?hd ?_); (case ha => rfl); (case hb => rfl); (case hc => first | omega | assumption | decide); (case hd => first | omega | assumption | decide))
  | ((with_reducible refine' n_lt ?ha ?hb ?_); (case ha => rfl); (case hb => rfl))
  | ((with_reducible refine' n_gt ?ha ?hb ?_); (case ha => rfl); (case hb => rfl))
  | ((with_reducible refine' n_eq ?ha ?hb ?_); (case ha => rfl); (case hb => rfl))
  | ((with_reducible refine' n_ne ?ha ?hb ?_); (case ha => rfl); (case hb => rfl))
  | (with_reducible refine ⟨_, rfl, ?_⟩)
  | (with_reducible refine ⟨_, _, rfl, ?_⟩)
  | (with_reducible refine ⟨_, _, _, rfl, ?_⟩)
  | (with_reducible refine ⟨_, _, _, _, rfl, ?_⟩)
  | exact ⟨rfl, _, rfl, rfl⟩)
local macro_rules | `(tactic| walk_at "d") => `(tactic| (repeat (walk_at "d1")))
section
variable {P : Program} {w : World} {K : PySem.W.Frag} {mg : Str → Option Value} {base : Heap}
abbrev sp_number_of : Sp := spX (fun bits : List Nat => [nL bits]) (fun _ => True) (fun bits d => d = nI (numN bits))
theorem ee_number_of {Ω : Wd} {δ : List AS} {R : KR} {ta : TA} {E : XK} (h : EA P w ta Ω δ fun rs Ω1 δ1 => ∃ (bits : List Nat), rs = [.dat (nL bits)] ∧ R (.dat (nI (numN bits))) Ω1 δ1) : EE P w (tCall sp_number_of [] E ta) Ω δ R :=
  ee_call fun σ S H g Q q => h σ S H g Q fun vs rs Ω' δ' S' H' ⟨bits, e, z⟩ => q vs rs Ω' δ' S' H' ⟨bits, e, trivial, fun d hd => by subst hd; exact z⟩

abbrev N_number_of : List Str := ["bits", "number", "bit"]
theorem sc_number_of : FnScope N_number_of ["bits"] (defScope s_number_of) := ⟨rfl, rfl, rfl, by decide +kernel, rfl, by decide +kernel, by decide +kernel⟩
theorem ok_number_of {k : Nat} {f : Addr} {fd : FuncData} (F : FnP K "number_of" "number_of" s_number_of f fd) (T : Fx mg) : FnOk P w K mg base CX0 (k + 1) f fd ["bits"] sp_number_of := by
  refine F.ok sc_number_of (spX_len fun _ => rfl) (fun cdv A outer s H vs Q E hr hsp => ?_)
  refine ⟨_, PSs.nox (pss_cons (ps_set (i := 1) sc_number_of.nd rfl (Or.inl rfl) pe_int)
    (pss_cons (ps_for PassesOwn.never rfl (pi_reversed (by rfl) T.reversed (pa_cons (pv 0) pa_nil)) (pg_name (i := 2) sc_number_of.nd rfl (Or.inl rfl))
    (pss_one (ps_set (i := 1) sc_number_of.nd rfl (Or.inl rfl) (pe_op op_add (pe_op op_mul pe_int (pv 1)) (pv 2)))))
    (pss_one (ps_ret (pv 1))))), ?_⟩
  refine run_spX (P := P) (w := w) hsp ?_
  intro bits S H _
  refine se_seq (se_set (ee_lit ⟨_, rfl, ?_⟩))
  refine se_seq (se_for (es_rev (ea_cons (ee_dat rfl (ea_nil ⟨_, rfl, fun i Ω' δ' => Ω' = Wd.frm S H ∧ ∃ a, δ' = [.dat (nL bits), .dat (nI (numN (bits.drop (bits.length - i)))), a], ?_, ?_, ?_⟩)))))
  · refine ⟨rfl, .un, ?_⟩
    rw [Nat.sub_zero, List.drop_length]
    rfl
  · rintro i d Ω' δ' hd ⟨rfl, a, rfl⟩
    rw [← List.map_reverse, List.getElem?_map] at hd
    obtain ⟨b, hb, rfl⟩ := Option.map_eq_some_iff.mp hd
    have hi := (List.getElem?_eq_some_iff.mp hb).1
    rw [List.length_reverse] at hi
    rw [List.getElem?_reverse hi] at hb
    refine ⟨_, gs_name, ?_⟩
    walk_at "d"
    refine ⟨rfl, .dat (nI b), ?_⟩
    have e : bits.drop (bits.length - (i + 1)) = b :: bits.drop (bits.length - i) := by
      have h1 : bits.length - (i + 1) = bits.length - 1 - i := by omega
      have h2 : bits.length - i = bits.length - 1 - i + 1 := by omega
      rw [h1, h2]
      obtain ⟨hlt, e⟩ := List.getElem?_eq_some_iff.mp hb
      rw [List.drop_eq_getElem_cons hlt, e]
    rw [e]
    rfl
  · rintro Ω' δ' ⟨rfl, a, rfl⟩
    rw [List.length_reverse, List.length_map, Nat.sub_self, List.drop_zero]
    walk_at "d"

abbrev sp_figure : Sp := spX (fun q : Nat × Nat => [nI q.1, nI q.2]) (fun _ => True) (fun q d => d = nI (figN q.1 q.2))
theorem ee_figure {Ω : Wd} {δ : List AS} {R : KR} {ta : TA} {E : XK} (h : EA P w ta Ω δ fun rs Ω1 δ1 => ∃ (t : Nat) (r : Nat), rs = [.dat (nI t), .dat (nI r)] ∧ R (.dat (nI (figN t r))) Ω1 δ1) : EE P w (tCall sp_figure [] E ta) Ω δ R :=
  ee_call fun σ S H g Q q => h σ S H g Q fun vs rs Ω' δ' S' H' ⟨t, r, e, z⟩ => q vs rs Ω' δ' S' H' ⟨(t, r), e, trivial, fun d hd => by subst hd; exact z⟩

abbrev N_figure : List Str := ["table", "row"]
theorem sc_figure : FnScope N_figure ["table", "row"] (defScope s_figure) := ⟨rfl, rfl, rfl, by decide +kernel, rfl, by decide +kernel, by decide +kernel⟩
theorem ok_figure {k : Nat} {f : Addr} {fd : FuncData} (F : FnP K "figure" "figure" s_figure f fd) (T : Fx mg) : FnOk P w K mg base CX0 (k + 1) f fd ["table", "row"] sp_figure := by
  refine F.ok sc_figure (spX_len fun _ => rfl) (fun cdv A outer s H vs Q E hr hsp => ?_)
  refine ⟨_, PSs.nox (pss_one (ps_ret (pe_op op_and (pe_op op_shr (pv 0) (pv 1)) pe_int))), ?_⟩
  refine run_spX (P := P) (w := w) hsp ?_
  rintro ⟨t, r⟩ S H _
  dsimp only
  walk_at "d"

abbrev sp_turned : Sp := spX (fun q : Nat × Nat => [nI q.1, nI q.2]) (fun q => q.2 ≤ 10) (fun q d => d = nI (turnN q.1 q.2))
theorem ee_turned {Ω : Wd} {δ : List AS} {R : KR} {ta : TA} {E : XK} (h : EA P w ta Ω δ fun rs Ω1 δ1 => ∃ (r : Nat) (k : Nat), rs = [.dat (nI r), .dat (nI k)] ∧ k ≤ 10 ∧ R (.dat (nI (turnN r k))) Ω1 δ1) : EE P w (tCall sp_turned [] E ta) Ω δ R :=
  ee_call fun σ S H g Q q => h σ S H g Q fun vs rs Ω' δ' S' H' ⟨r, k, e, hp, z⟩ => q vs rs Ω' δ' S' H' ⟨(r, k), e, hp, fun d hd => by subst hd; exact z⟩

abbrev N_turned : List Str := ["row", "k"]
theorem sc_turned : FnScope N_turned ["row", "k"] (defScope s_turned) := ⟨rfl, rfl, rfl, by decide +kernel, rfl, by decide +kernel, by decide +kernel⟩
theorem ok_turned {k : Nat} {f : Addr} {fd : FuncData} (F : FnP K "turned" "turned" s_turned f fd) (T : Fx mg) : FnOk P w K mg base CX0 (k + 1) f fd ["row", "k"] sp_turned := by
  refine F.ok sc_turned (spX_len fun _ => rfl) (fun cdv A outer s H vs Q E hr hsp => ?_)
  refine ⟨_, PSs.nox (pss_one (ps_ret (pe_op op_xor (pv 0) (pe_op op_shl pe_int (pv 1))))), ?_⟩
  refine run_spX (P := P) (w := w) hsp ?_
  rintro ⟨r, j⟩ S H hj
  dsimp only
  have hj : j ≤ 10 := hj
  walk_at "d"

abbrev sp_widened : Sp := spX (fun q : Nat × Nat × Nat => [nI q.1, nI q.2.1, nI q.2.2]) (fun q => q.1 < 1000000 ∧ q.2.1 ≤ 10 ∧ q.2.2 < 1000000) (fun q d => d = nI (widN q.1 q.2.1 q.2.2))
theorem ee_widened {Ω : Wd} {δ : List AS} {R : KR} {ta : TA} {E : XK} (h : EA P w ta Ω δ fun rs Ω1 δ1 => ∃ (r : Nat) (k : Nat) (b : Nat), rs = [.dat (nI r), .dat (nI k), .dat (nI b)] ∧ (r < 1000000 ∧ k ≤ 10 ∧ b < 1000000) ∧ R (.dat (nI (widN r k b))) Ω1 δ1) : EE P w (tCall sp_widened [] E ta) Ω δ R :=
  ee_call fun σ S H g Q q => h σ S H g Q fun vs rs Ω' δ' S' H' ⟨r, k, b, e, hp, z⟩ => q vs rs Ω' δ' S' H' ⟨(r, k, b), e, hp, fun d hd => by subst hd; exact z⟩

abbrev N_widened : List Str := ["row", "k", "bit", "low"]
theorem sc_widened : FnScope N_widened ["row", "k", "bit"] (defScope s_widened) := ⟨rfl, rfl, rfl, by decide +kernel, rfl, by decide +kernel, by decide +kernel⟩
theorem ok_widened {k : Nat} {f : Addr} {fd : FuncData} (F : FnP K "widened" "widened" s_widened f fd) (T : Fx mg) : FnOk P w K mg base CX0 (k + 1) f fd ["row", "k", "bit"] sp_widened := by
  refine F.ok sc_widened (spX_len fun _ => rfl) (fun cdv A outer s H vs Q E hr hsp => ?_)
  refine ⟨_, PSs.nox (pss_cons (ps_set (i := 3) sc_widened.nd rfl (Or.inl rfl) (pe_op op_and (pv 0) (pe_op op_sub (pe_op op_shl pe_int (pv 1)) pe_int)))
    (pss_one (ps_ret (pe_op op_or (pe_op op_or (pv 3) (pe_op op_shl (pv 2) (pv 1))) (pe_op op_shl (pe_op op_shr (pv 0) (pv 1)) (pe_op op_add (pv 1) pe_int)))))), ?_⟩
  refine run_spX (P := P) (w := w) hsp ?_
  rintro ⟨r, j, b⟩ S H hp
  dsimp only
  obtain ⟨h1, h2, h3⟩ : r < 1000000 ∧ j ≤ 10 ∧ b < 1000000 := hp
  have h4 : 1 ≤ 1 <<< j := by
    rw [Nat.shiftLeft_eq, Nat.one_mul]
    exact Nat.one_le_two_pow
  have h5 : r >>> j < 18446744073709551616 := by
    rw [Nat.shiftRight_eq_div_pow]
    exact Nat.lt_of_le_of_lt (Nat.div_le_self _ _) (by omega)
  walk_at "d"

theorem shl_le {m : Nat} (h : m ≤ 10) : 1 <<< m ≤ 1000000 := by
  rw [Nat.shiftLeft_eq, Nat.one_mul]
  exact Nat.le_trans (Nat.pow_le_pow_right (by decide) h) (by decide)
theorem nats_map {n : Nat} (f : Nat → Nat) : (List.range n).map (fun i => nI (f i)) = ((List.range n).map f).map nI := by
  rw [List.map_map]
  rfl
theorem rangeD_at {n i : Nat} {d : PyData} (h : (rangeD 0 n)[i]? = some d) : i < n ∧ d = nI i := by
  have hi := (List.getElem?_eq_some_iff.mp h).1
  rw [rangeD_len] at hi
  rw [rangeD_get hi] at h
  cases h
  exact ⟨hi, by rw [Int.zero_add]⟩
abbrev sp_hangs : Sp := spX (fun q : Nat × Nat × Nat => [nI q.1, nI q.2.1, nI q.2.2]) (fun q => q.2.1 ≤ 10 ∧ q.2.2 ≤ 10) (fun q d => d = .bool (hangsN q.1 q.2.1 q.2.2))
theorem ee_hangs {Ω : Wd} {δ : List AS} {R : KR} {ta : TA} {E : XK} (h : EA P w ta Ω δ fun rs Ω1 δ1 => ∃ (t : Nat) (m : Nat) (k : Nat), rs = [.dat (nI t), .dat (nI m), .dat (nI k)] ∧ (m ≤ 10 ∧ k ≤ 10) ∧ R (.dat (.bool (hangsN t m k))) Ω1 δ1) : EE P w (tCall sp_hangs [] E ta) Ω δ R :=
  ee_call fun σ S H g Q q => h σ S H g Q fun vs rs Ω' δ' S' H' ⟨t, m, k, e, hp, z⟩ => q vs rs Ω' δ' S' H' ⟨(t, m, k), e, hp, fun d hd => by subst hd; exact z⟩

abbrev N_hangs : List Str := ["table", "many", "k", "row"]
theorem sc_hangs : FnScope N_hangs ["table", "many", "k"] (defScope s_hangs) := ⟨rfl, rfl, rfl, by decide +kernel, rfl, by decide +kernel, by decide +kernel⟩
theorem ok_hangs {k : Nat} {f : Addr} {fd : FuncData} (F : FnP K "hangs" "hangs" s_hangs f fd) (T : Fx mg) (c_figure : Cal P w K mg base k "figure" ["table", "row"] sp_figure) (c_turned : Cal P w K mg base k "turned" ["row", "k"] sp_turned) : FnOk P w K mg base CX0 (k + 1) f fd ["table", "many", "k"] sp_hangs := by
  refine F.ok sc_hangs (spX_len fun _ => rfl) (fun cdv A outer s H vs Q E hr hsp => ?_)
  refine ⟨_, PSs.nox (pss_cons (ps_for PassesOwn.never rfl (pi_range1 (by rfl) T.range (pa_cons (pe_op op_shl pe_int (pv 1)) pa_nil)) (pg_name (i := 3) sc_hangs.nd rfl (Or.inl rfl))
    (pss_one (ps_if (pt_cmpR (op_neD hr.units) (pe_cal c_figure hr (by rfl) (pa_cons (pv 0) (pa_cons (pv 3) pa_nil))) (pe_cal c_figure hr (by rfl) (pa_cons (pv 0) (pa_cons (pe_cal c_turned hr (by rfl) (pa_cons (pv 3) (pa_cons (pv 2) pa_nil))) pa_nil))) (nomark _))
    (pss_one (ps_ret pe_bl))
    pss_nil)))
    (pss_one (ps_ret pe_bl))), ?_⟩
  refine run_spX (P := P) (w := w) hsp ?_
  rintro ⟨t, m, j⟩ S H hp
  dsimp only
  obtain ⟨h1, h2⟩ : m ≤ 10 ∧ j ≤ 10 := hp
  refine se_seq (se_for (es_range1 (ea_cons ?_)))
  walk_at "d"
  refine ⟨shl_le h1, fun i Ω' δ' => Ω' = Wd.frm S H ∧ (∀ r, r < i → figN t r = figN t (turnN r j)) ∧ ∃ a, δ' = [.dat (nI t), .dat (nI m), .dat (nI j), a], ?_, ?_, ?_⟩
  · exact ⟨rfl, fun r h => absurd h (Nat.not_lt_zero r), .un, rfl⟩
  · rintro i d Ω' δ' hd ⟨rfl, hI, a, rfl⟩
    obtain ⟨hi, rfl⟩ := rangeD_at hd
    refine ⟨_, gs_name, ?_⟩
    refine se_if (et_test (ee_op (ee_figure (ea_cons (ee_dat rfl (ea_cons (ee_dat rfl (ea_nil ⟨_, _, rfl, ?_⟩))))))))
    refine ee_figure (ea_cons (ee_dat rfl (ea_cons (ee_turned (ea_cons (ee_dat rfl (ea_cons (ee_dat rfl (ea_nil ⟨_, _, rfl, h2, ea_nil ⟨_, _, rfl, ?_⟩⟩)))))))))
    refine n_ne rfl rfl ⟨_, rfl, fun hb => ?_, fun hb => ?_⟩
    · have e : hangsN t m j = true := List.any_eq_true.mpr ⟨i, List.mem_range.mpr hi, hb⟩
      walk_at "d"
      exact ⟨rfl, _, rfl, by rw [e]⟩
    · walk_at "d"
      refine ⟨rfl, fun r hr => ?_, _, rfl⟩
      by_cases e : r = i
      · rw [e]
        simpa using hb
      · exact hI r (by omega)
  · rintro Ω' δ' ⟨rfl, hI, a, rfl⟩
    rw [rangeD_len] at hI
    have e : hangsN t m j = false := List.any_eq_false.mpr fun r hr => by
      rw [hI r (List.mem_range.mp hr)]
      simp
    walk_at "d"
    exact ⟨rfl, _, rfl, by rw [e]⟩

abbrev sp_fixed : Sp := spX (fun q : Nat × Nat × Nat × Nat => [nI q.1, nI q.2.1, nI q.2.2.1, nI q.2.2.2]) (fun q => 1 ≤ q.2.1 ∧ q.2.1 ≤ 10 ∧ q.2.2.1 ≤ 10 ∧ q.2.2.2 < 1000000) (fun q d => d = nI (fixN q.1 q.2.1 q.2.2.1 q.2.2.2))
theorem ee_fixed {Ω : Wd} {δ : List AS} {R : KR} {ta : TA} {E : XK} (h : EA P w ta Ω δ fun rs Ω1 δ1 => ∃ (t : Nat) (m : Nat) (k : Nat) (b : Nat), rs = [.dat (nI t), .dat (nI m), .dat (nI k), .dat (nI b)] ∧ (1 ≤ m ∧ m ≤ 10 ∧ k ≤ 10 ∧ b < 1000000) ∧ R (.dat (nI (fixN t m k b))) Ω1 δ1) : EE P w (tCall sp_fixed [] E ta) Ω δ R :=
  ee_call fun σ S H g Q q => h σ S H g Q fun vs rs Ω' δ' S' H' ⟨t, m, k, b, e, hp, z⟩ => q vs rs Ω' δ' S' H' ⟨(t, m, k, b), e, hp, fun d hd => by subst hd; exact z⟩

abbrev N_fixed : List Str := ["table", "many", "k", "bit", "row"]
theorem sc_fixed : FnScope N_fixed ["table", "many", "k", "bit"] (defScope s_fixed) := ⟨rfl, rfl, rfl, by decide +kernel, rfl, by decide +kernel, by decide +kernel⟩
theorem ok_fixed {k : Nat} {f : Addr} {fd : FuncData} (F : FnP K "fixed" "fixed" s_fixed f fd) (T : Fx mg) (c_figure : Cal P w K mg base k "figure" ["table", "row"] sp_figure) (c_number_of : Cal P w K mg base k "number_of" ["bits"] sp_number_of) (c_widened : Cal P w K mg base k "widened" ["row", "k", "bit"] sp_widened) : FnOk P w K mg base CX0 (k + 1) f fd ["table", "many", "k", "bit"] sp_fixed := by
  refine F.ok sc_fixed (spX_len fun _ => rfl) (fun cdv A outer s H vs Q E hr hsp => ?_)
  refine ⟨_, PSs.nox (pss_one (ps_ret (pe_cal c_number_of hr (by rfl) (pa_cons (pe_lc (own := [("row", 4)]) (g := gName 4) (by rfl) sc_fixed.nd (pi_range1 (by rfl) T.range (pa_cons (pe_op op_shl pe_int (pe_op op_sub (pv 1) pe_int)) pa_nil)) (blkOk_by (own := [("row", 4)]) (N := N_fixed) (sc := defScope s_fixed) (by decide +kernel)) (fun _ _ _ _ _ => pg_name (i := 4) sc_fixed.nd rfl (Or.inl rfl)) (fun _ _ _ _ _ => pts_nil) (fun _ _ _ _ _ => pe_cal c_figure hr (by rfl) (pa_cons (pv 0) (pa_cons (pe_cal c_widened hr (by rfl) (pa_cons (pv 4) (pa_cons (pv 2) (pa_cons (pv 3) pa_nil)))) pa_nil)))) pa_nil)))), ?_⟩
  refine run_spX (P := P) (w := w) hsp ?_
  rintro ⟨t, m, j, b⟩ S H hp
  dsimp only
  obtain ⟨h1, h2, h3, h4⟩ : 1 ≤ m ∧ m ≤ 10 ∧ j ≤ 10 ∧ b < 1000000 := hp
  refine se_retD (ee_number_of (ea_cons (ee_new (en_map (es_range1 (ea_cons ?_))))))
  walk_at "d"
  refine ⟨shl_le (by omega), rfl, by rw [rangeD_len]; exact Nat.lt_of_le_of_lt (shl_le (by omega)) (by decide), fun i => nI (figN t (widN i j b)), ?_, ?_⟩
  · intro i d hd
    obtain ⟨hi, rfl⟩ := rangeD_at hd
    have hi6 : i < 1000000 := Nat.lt_of_lt_of_le hi (shl_le (by omega))
    refine ⟨_, gs_name, rfl, ?_⟩
    refine ee_figure (ea_cons (ee_dat rfl (ea_cons (ee_widened (ea_cons (ee_dat rfl (ea_cons (ee_dat rfl (ea_cons (ee_dat rfl (ea_nil ⟨_, _, _, rfl, ⟨hi6, h3, h4⟩, ea_nil ⟨_, _, rfl, rfl, rfl, rfl⟩⟩)))))))))))
  · rw [rangeD_len, nats_map]
    exact ea_nil ⟨_, rfl, _, rfl, rfl, _, rfl, rfl⟩

abbrev sp_joined : Sp := spX (fun q : Nat × Nat × Nat × Nat => [nI q.1, nI q.2.1, nI q.2.2.1, nI q.2.2.2]) (fun q => 1 ≤ q.2.1 ∧ q.2.1 ≤ 10 ∧ q.2.2.2 ≤ 10) (fun q d => d = nI (joinN q.1 q.2.1 q.2.2.1 q.2.2.2))
theorem ee_joined {Ω : Wd} {δ : List AS} {R : KR} {ta : TA} {E : XK} (h : EA P w ta Ω δ fun rs Ω1 δ1 => ∃ (t : Nat) (m : Nat) (k : Nat) (j : Nat), rs = [.dat (nI t), .dat (nI m), .dat (nI k), .dat (nI j)] ∧ (1 ≤ m ∧ m ≤ 10 ∧ j ≤ 10) ∧ R (.dat (nI (joinN t m k j))) Ω1 δ1) : EE P w (tCall sp_joined [] E ta) Ω δ R :=
  ee_call fun σ S H g Q q => h σ S H g Q fun vs rs Ω' δ' S' H' ⟨t, m, k, j, e, hp, z⟩ => q vs rs Ω' δ' S' H' ⟨(t, m, k, j), e, hp, fun d hd => by subst hd; exact z⟩

abbrev N_joined : List Str := ["table", "many", "k", "j", "row"]
theorem sc_joined : FnScope N_joined ["table", "many", "k", "j"] (defScope s_joined) := ⟨rfl, rfl, rfl, by decide +kernel, rfl, by decide +kernel, by decide +kernel⟩
theorem ok_joined {k : Nat} {f : Addr} {fd : FuncData} (F : FnP K "joined" "joined" s_joined f fd) (T : Fx mg) (c_figure : Cal P w K mg base k "figure" ["table", "row"] sp_figure) (c_number_of : Cal P w K mg base k "number_of" ["bits"] sp_number_of) (c_widened : Cal P w K mg base k "widened" ["row", "k", "bit"] sp_widened) : FnOk P w K mg base CX0 (k + 1) f fd ["table", "many", "k", "j"] sp_joined := by
  refine F.ok sc_joined (spX_len fun _ => rfl) (fun cdv A outer s H vs Q E hr hsp => ?_)
  refine ⟨_, PSs.nox (pss_one (ps_ret (pe_cal c_number_of hr (by rfl) (pa_cons (pe_lc (own := [("row", 4)]) (g := gName 4) (by rfl) sc_joined.nd (pi_range1 (by rfl) T.range (pa_cons (pe_op op_shl pe_int (pe_op op_sub (pv 1) pe_int)) pa_nil)) (blkOk_by (own := [("row", 4)]) (N := N_joined) (sc := defScope s_joined) (by decide +kernel)) (fun _ _ _ _ _ => pg_name (i := 4) sc_joined.nd rfl (Or.inl rfl)) (fun _ _ _ _ _ => pts_nil) (fun _ _ _ _ _ => pe_cal c_figure hr (by rfl) (pa_cons (pv 0) (pa_cons (pe_cal c_widened hr (by rfl) (pa_cons (pv 4) (pa_cons (pv 3) (pa_cons (pe_op op_and (pe_op op_shr (pv 4) (pv 2)) pe_int) pa_nil)))) pa_nil)))) pa_nil)))), ?_⟩
  refine run_spX (P := P) (w := w) hsp ?_
  rintro ⟨t, m, l, j⟩ S H hp
  dsimp only
  obtain ⟨h1, h2, h3⟩ : 1 ≤ m ∧ m ≤ 10 ∧ j ≤ 10 := hp
  refine se_retD (ee_number_of (ea_cons (ee_new (en_map (es_range1 (ea_cons ?_))))))
  walk_at "d"
  refine ⟨shl_le (by omega), rfl, by rw [rangeD_len]; exact Nat.lt_of_le_of_lt (shl_le (by omega)) (by decide), fun i => nI (figN t (widN i j (i >>> l &&& 1))), ?_, ?_⟩
  · intro i d hd
    obtain ⟨hi, rfl⟩ := rangeD_at hd
    have hi6 : i < 1000000 := Nat.lt_of_lt_of_le hi (shl_le (by omega))
    refine ⟨_, gs_name, rfl, ?_⟩
    have h4 : i >>> l &&& 1 < 1000000 := Nat.lt_of_le_of_lt Nat.and_le_right (by decide)
    refine ee_figure (ea_cons (ee_dat rfl (ea_cons (ee_widened (ea_cons (ee_dat rfl (ea_cons (ee_dat rfl (ea_cons ?_)))))))))
    walk_at "d"
    refine ⟨⟨hi6, h3, h4⟩, ea_nil ⟨_, _, rfl, rfl, rfl, rfl⟩⟩
  · rw [rangeD_len, nats_map]
    exact ea_nil ⟨_, rfl, _, rfl, rfl, _, rfl, rfl⟩

abbrev sp_flipped : Sp := spX (fun q : Nat × Nat × Nat => [nI q.1, nI q.2.1, nI q.2.2]) (fun q => q.2.1 ≤ 10 ∧ q.2.2 ≤ 10) (fun q d => d = nI (flipN q.1 q.2.1 q.2.2))
theorem ee_flipped {Ω : Wd} {δ : List AS} {R : KR} {ta : TA} {E : XK} (h : EA P w ta Ω δ fun rs Ω1 δ1 => ∃ (t : Nat) (m : Nat) (k : Nat), rs = [.dat (nI t), .dat (nI m), .dat (nI k)] ∧ (m ≤ 10 ∧ k ≤ 10) ∧ R (.dat (nI (flipN t m k))) Ω1 δ1) : EE P w (tCall sp_flipped [] E ta) Ω δ R :=
  ee_call fun σ S H g Q q => h σ S H g Q fun vs rs Ω' δ' S' H' ⟨t, m, k, e, hp, z⟩ => q vs rs Ω' δ' S' H' ⟨(t, m, k), e, hp, fun d hd => by subst hd; exact z⟩

abbrev N_flipped : List Str := ["table", "many", "k", "row"]
theorem sc_flipped : FnScope N_flipped ["table", "many", "k"] (defScope s_flipped) := ⟨rfl, rfl, rfl, by decide +kernel, rfl, by decide +kernel, by decide +kernel⟩
theorem ok_flipped {k : Nat} {f : Addr} {fd : FuncData} (F : FnP K "flipped" "flipped" s_flipped f fd) (T : Fx mg) (c_figure : Cal P w K mg base k "figure" ["table", "row"] sp_figure) (c_number_of : Cal P w K mg base k "number_of" ["bits"] sp_number_of) (c_turned : Cal P w K mg base k "turned" ["row", "k"] sp_turned) : FnOk P w K mg base CX0 (k + 1) f fd ["table", "many", "k"] sp_flipped := by
  refine F.ok sc_flipped (spX_len fun _ => rfl) (fun cdv A outer s H vs Q E hr hsp => ?_)
  refine ⟨_, PSs.nox (pss_one (ps_ret (pe_cal c_number_of hr (by rfl) (pa_cons (pe_lc (own := [("row", 3)]) (g := gName 3) (by rfl) sc_flipped.nd (pi_range1 (by rfl) T.range (pa_cons (pe_op op_shl pe_int (pv 1)) pa_nil)) (blkOk_by (own := [("row", 3)]) (N := N_flipped) (sc := defScope s_flipped) (by decide +kernel)) (fun _ _ _ _ _ => pg_name (i := 3) sc_flipped.nd rfl (Or.inl rfl)) (fun _ _ _ _ _ => pts_nil) (fun _ _ _ _ _ => pe_cal c_figure hr (by rfl) (pa_cons (pv 0) (pa_cons (pe_cal c_turned hr (by rfl) (pa_cons (pv 3) (pa_cons (pv 2) pa_nil))) pa_nil)))) pa_nil)))), ?_⟩
  refine run_spX (P := P) (w := w) hsp ?_
  rintro ⟨t, m, j⟩ S H hp
  dsimp only
  obtain ⟨h1, h2⟩ : m ≤ 10 ∧ j ≤ 10 := hp
  refine se_retD (ee_number_of (ea_cons (ee_new (en_map (es_range1 (ea_cons ?_))))))
  walk_at "d"
  refine ⟨shl_le (by omega), rfl, by rw [rangeD_len]; exact Nat.lt_of_le_of_lt (shl_le (by omega)) (by decide), fun i => nI (figN t (turnN i j)), ?_, ?_⟩
  · intro i d hd
    obtain ⟨hi, rfl⟩ := rangeD_at hd
    have hi6 : i < 1000000 := Nat.lt_of_lt_of_le hi (shl_le (by omega))
    refine ⟨_, gs_name, rfl, ?_⟩
    refine ee_figure (ea_cons (ee_dat rfl (ea_cons (ee_turned (ea_cons (ee_dat rfl (ea_cons (ee_dat rfl (ea_nil ⟨_, _, rfl, h2, ea_nil ⟨_, _, rfl, rfl, rfl, rfl⟩⟩)))))))))
  · rw [rangeD_len, nats_map]
    exact ea_nil ⟨_, rfl, _, rfl, rfl, _, rfl, rfl⟩

end
end G
set_option Elab.async false
set_option linter.all false
set_option maxRecDepth 100000
set_option maxHeartbeats 4000000
set_option autoImplicit false
namespace G
open PySem PySem.Spec PyProof.Rows L2 D M
local macro_rules | `(tactic| walk_at "d1") => `(tactic| first
  | (with_reducible refine se_seq ?_)
  | (with_reducible refine se_next ?_)
  | (with_reducible refine se_set ?_)
  | (with_reducible refine se_retD ?_)
  | (with_reducible refine se_if ?_)
  | (with_reducible refine ee_lit ?_)
  | (with_reducible refine ee_int ?_)
  | (with_reducible refine ee_str ?_)
  | (with_reducible refine ee_bl ?_)
  | (with_reducible refine ee_non ?_)
  | (with_reducible refine ee_op ?_)
  | (with_reducible refine ee_tup ?_)
  | (with_reducible refine ee_cb ?_)
  | (with_reducible refine et_test ?_)
  | (with_reducible refine ea_nil ?_)
  | (with_reducible refine ea_cons ?_)
  | ((with_reducible refine' ee_dat ?e ?_); (case e => rfl))
  | ((with_reducible refine' ee_own ?e ?_); (case e => rfl))
  | ((with_reducible refine' ee_raw ?e ?_); (case e => rfl))
  | ((with_reducible refine' n_and ?ha ?hb ?_); (case ha => rfl); (case hb => rfl))
  | ((with_reducible refine' n_or ?ha ?hb ?_); (case ha => rfl); (case hb => rfl))
  | ((with_reducible refine' n_xor ?ha ?hb ?_); (case ha => rfl); (case hb => rfl))
  | ((with_reducible refine' n_add ?ha ?hb ?_); (case ha => rfl); (case hb => rfl))
  | ((with_reducible refine' n_sub ?ha ?hb ?hc ?_); (case ha => rfl); (case hb => rfl); (case hc => first | omega | assumption | decide))
  | ((with_reducible refine' n_mul ?ha ?hb ?hc ?_); (case ha => rfl); (case hb => rfl); (case hc => first | omega | assumption | decide))
  | ((with_reducible refine' n_shr ?ha ?hb ?_); (case ha => rfl); (case hb => rfl))
  | ((with_reducible refine' n_shl ?ha ?hb ?hc ?hd ?_); (case ha => rfl); (case hb => rfl); (case hc => first | omega | assumption | decide); (case hd => first | omega | assumption | decide))
  | ((with_reducible refine' n_lt ?ha ?hb ?_); (case ha => rfl); (case hb => rfl))
  | ((with_reducible refine' n_gt ?ha ?hb ?_); (case ha => rfl); (case hb => rfl))
  | ((with_reducible refine' n_eq ?ha ?hb ?_); (case ha => rfl); (case hb => rfl))
  | ((with_reducible refine' n_ne ?ha ?hb ?_); (case ha => rfl); (case hb => rfl))
  | (with_reducible refine ⟨_, rfl, ?_⟩)
  | (with_reducible refine ⟨_, _, rfl, ?_⟩)
  | (with_reducible refine ⟨_, _, _, rfl, ?_⟩)
  | (with_reducible refine ⟨_, _, _, _, rfl, ?_⟩)
  | exact ⟨rfl, _, rfl, rfl⟩)
local macro_rules | `(tactic| walk_at "d") => `(tactic| (repeat (walk_at "d1")))
section
variable {P : Program} {w : World} {K : PySem.W.Frag} {mg : Str → Option Value} {base : Heap}
abbrev sp_row_by : Sp := spX (fun q : Nat × List Nat => [nI q.1, nL q.2]) (fun q => q.2.length ≤ 10 ∧ ∀ p ∈ q.2, p ≤ 10) (fun q d => d = nI (rowByN q.1 q.2))
theorem ee_row_by {Ω : Wd} {δ : List AS} {R : KR} {ta : TA} {E : XK} (h : EA P w ta Ω δ fun rs Ω1 δ1 => ∃ (r : Nat) (o : List Nat), rs = [.dat (nI r), .dat (nL o)] ∧ (o.length ≤ 10 ∧ ∀ p ∈ o, p ≤ 10) ∧ R (.dat (nI (rowByN r o))) Ω1 δ1) : EE P w (tCall sp_row_by [] E ta) Ω δ R :=
  ee_call fun σ S H g Q q => h σ S H g Q fun vs rs Ω' δ' S' H' ⟨r, o, e, hp, z⟩ => q vs rs Ω' δ' S' H' ⟨(r, o), e, hp, fun d hd => by subst hd; exact z⟩

theorem enumD_at {ns : List Nat} {i : Nat} {d : PyData} (h : (enumD (ns.map nI))[i]? = some d) : ∃ n, ns[i]? = some n ∧ d = .tuple [nI i, nI n] := by
  have hi := (List.getElem?_eq_some_iff.mp h).1
  rw [enumD_len, List.length_map] at hi
  have e : (ns.map nI)[i]? = some (nI ns[i]) := by rw [List.getElem?_map, List.getElem?_eq_getElem hi]; rfl
  rw [enumD_get e] at h
  cases h
  exact ⟨_, List.getElem?_eq_getElem hi, rfl⟩
abbrev N_row_by : List Str := ["row", "order", "made", "i", "place"]
theorem sc_row_by : FnScope N_row_by ["row", "order"] (defScope s_row_by) := ⟨rfl, rfl, rfl, by decide +kernel, rfl, by decide +kernel, by decide +kernel⟩
theorem ok_row_by {k : Nat} {f : Addr} {fd : FuncData} (F : FnP K "row_by" "row_by" s_row_by f fd) (T : Fx mg) : FnOk P w K mg base CX0 (k + 1) f fd ["row", "order"] sp_row_by := by
  refine F.ok sc_row_by (spX_len fun _ => rfl) (fun cdv A outer s H vs Q E hr hsp => ?_)
  refine ⟨_, PSs.nox (pss_cons (ps_set (i := 2) sc_row_by.nd rfl (Or.inl rfl) pe_int)
    (pss_cons (ps_for PassesOwn.never rfl (pi_enum (by rfl) T.enumerate (pa_cons (pv 1) pa_nil)) (pg_tup rfl (pgs_cons (pg_name (i := 3) sc_row_by.nd rfl (Or.inl rfl)) (pgs_cons (pg_name (i := 4) sc_row_by.nd rfl (Or.inl rfl)) pgs_nil)))
    (pss_one (ps_set (i := 2) sc_row_by.nd rfl (Or.inl rfl) (pe_op op_or (pv 2) (pe_op op_shl (pe_op op_and (pe_op op_shr (pv 0) (pv 3)) pe_int) (pv 4))))))
    (pss_one (ps_ret (pv 2))))), ?_⟩
  refine run_spX (P := P) (w := w) hsp ?_
  rintro ⟨r, o⟩ S H hp
  obtain ⟨h1, h2⟩ : o.length ≤ 10 ∧ ∀ p ∈ o, p ≤ 10 := hp
  dsimp only
  refine se_seq (se_set (ee_lit ⟨_, rfl, ?_⟩))
  refine se_seq (se_for (es_enum (ea_cons (ee_dat rfl (ea_nil ⟨_, rfl, fun i Ω' δ' => Ω' = Wd.frm S H ∧ ∃ a b, δ' = [.dat (nI r), .dat (nL o), .dat (nI (((o.zipIdx).take i).foldl (fun made q => made ||| (r >>> q.2 &&& 1) <<< q.1) 0)), a, b], ?_, ?_, ?_⟩)))))
  · exact ⟨rfl, .un, .un, rfl⟩
  · rintro i d Ω' δ' hd ⟨rfl, a, b, rfl⟩
    obtain ⟨n, hn, rfl⟩ := enumD_at hd
    have hi := (List.getElem?_eq_some_iff.mp hn).1
    have hn10 : n ≤ 10 := h2 n (List.mem_of_getElem? hn)
    refine ⟨_, gs_tup2, ?_⟩
    have hs : r >>> i &&& 1 < 18446744073709551616 := Nat.lt_of_le_of_lt Nat.and_le_right (by decide)
    walk_at "d"
    refine ⟨rfl, .dat (nI i), .dat (nI n), ?_⟩
    have e : (o.zipIdx).take (i + 1) = (o.zipIdx).take i ++ [(n, i)] := by
      rw [List.take_add_one, List.getElem?_zipIdx, hn]
      simp
    rw [e, List.foldl_append]
    rfl
  · rintro Ω' δ' ⟨rfl, a, b, rfl⟩
    rw [enumD_len, List.length_map, List.take_of_length_le (by rw [List.length_zipIdx]; exact Nat.le_refl _)]
    walk_at "d"

abbrev sp_ordered : Sp := spX (fun q : Nat × List Nat => [nI q.1, nL q.2]) (fun q => q.2.length ≤ 10 ∧ ∀ p ∈ q.2, p ≤ 10) (fun q d => d = nI (ordN q.1 q.2))
theorem ee_ordered {Ω : Wd} {δ : List AS} {R : KR} {ta : TA} {E : XK} (h : EA P w ta Ω δ fun rs Ω1 δ1 => ∃ (t : Nat) (o : List Nat), rs = [.dat (nI t), .dat (nL o)] ∧ (o.length ≤ 10 ∧ ∀ p ∈ o, p ≤ 10) ∧ R (.dat (nI (ordN t o))) Ω1 δ1) : EE P w (tCall sp_ordered [] E ta) Ω δ R :=
  ee_call fun σ S H g Q q => h σ S H g Q fun vs rs Ω' δ' S' H' ⟨t, o, e, hp, z⟩ => q vs rs Ω' δ' S' H' ⟨(t, o), e, hp, fun d hd => by subst hd; exact z⟩

abbrev N_ordered : List Str := ["table", "order", "row"]
theorem sc_ordered : FnScope N_ordered ["table", "order"] (defScope s_ordered) := ⟨rfl, rfl, rfl, by decide +kernel, rfl, by decide +kernel, by decide +kernel⟩
theorem ok_ordered {k : Nat} {f : Addr} {fd : FuncData} (F : FnP K "ordered" "ordered" s_ordered f fd) (T : Fx mg) (c_figure : Cal P w K mg base k "figure" ["table", "row"] sp_figure) (c_number_of : Cal P w K mg base k "number_of" ["bits"] sp_number_of) (c_row_by : Cal P w K mg base k "row_by" ["row", "order"] sp_row_by) : FnOk P w K mg base CX0 (k + 1) f fd ["table", "order"] sp_ordered := by
  refine F.ok sc_ordered (spX_len fun _ => rfl) (fun cdv A outer s H vs Q E hr hsp => ?_)
  refine ⟨_, PSs.nox (pss_one (ps_ret (pe_cal c_number_of hr (by rfl) (pa_cons (pe_lc (own := [("row", 2)]) (g := gName 2) (by rfl) sc_ordered.nd (pi_range1 (by rfl) T.range (pa_cons (pe_op op_shl pe_int (pe_callB call_len2 (by rfl) T.len PySem.boot_len (pa_cons (pv 1) pa_nil))) pa_nil)) (blkOk_by (own := [("row", 2)]) (N := N_ordered) (sc := defScope s_ordered) (by decide +kernel)) (fun _ _ _ _ _ => pg_name (i := 2) sc_ordered.nd rfl (Or.inl rfl)) (fun _ _ _ _ _ => pts_nil) (fun _ _ _ _ _ => pe_cal c_figure hr (by rfl) (pa_cons (pv 0) (pa_cons (pe_cal c_row_by hr (by rfl) (pa_cons (pv 2) (pa_cons (pv 1) pa_nil))) pa_nil)))) pa_nil)))), ?_⟩
  refine run_spX (P := P) (w := w) hsp ?_
  rintro ⟨t, o⟩ S H hp
  obtain ⟨h1, h2⟩ : o.length ≤ 10 ∧ ∀ p ∈ o, p ≤ 10 := hp
  dsimp only
  refine se_retD (ee_number_of (ea_cons (ee_new (en_map (es_range1 (ea_cons (ee_op (ee_lit (ee_cb (ea_cons (ee_dat rfl (ea_nil (cb_len (.inl rfl) ?_)))))))))))))
  rw [List.length_map]
  walk_at "d"
  refine ⟨shl_le (by omega), rfl, by rw [rangeD_len]; exact Nat.lt_of_le_of_lt (shl_le (by omega)) (by decide), fun i => nI (figN t (rowByN i o)), ?_, ?_⟩
  · intro i d hd
    obtain ⟨hi, rfl⟩ := rangeD_at hd
    refine ⟨_, gs_name, rfl, ?_⟩
    refine ee_figure (ea_cons (ee_dat rfl (ea_cons (ee_row_by (ea_cons (ee_dat rfl (ea_cons (ee_dat rfl (ea_nil ⟨_, _, rfl, ⟨h1, h2⟩, ea_nil ⟨_, _, rfl, rfl, rfl, rfl⟩⟩)))))))))
  · rw [rangeD_len, nats_map]
    exact ea_nil ⟨_, rfl, _, rfl, rfl, _, rfl, rfl⟩

abbrev enM (m : Nat × Nat) : PyData := .tuple [nI m.1, nI m.2]
abbrev enG (g : Gate) : PyData := .tuple [nI g.1, nT g.2]
abbrev enC (c : Circ) : PyData := .tuple [nI c.ins, .list (c.mems.map enM), .list (c.gates.map enG), nL c.outs]
abbrev sp_first_gate : Sp := spX (fun c : Circ => [enC c]) (fun _ => True) (fun c d => d = nI c.first)
theorem ee_first_gate {Ω : Wd} {δ : List AS} {R : KR} {ta : TA} {E : XK} (h : EA P w ta Ω δ fun rs Ω1 δ1 => ∃ (c : Circ), rs = [.dat (enC c)] ∧ R (.dat (nI c.first)) Ω1 δ1) : EE P w (tCall sp_first_gate [] E ta) Ω δ R :=
  ee_call fun σ S H g Q q => h σ S H g Q fun vs rs Ω' δ' S' H' ⟨c, e, z⟩ => q vs rs Ω' δ' S' H' ⟨c, e, trivial, fun d hd => by subst hd; exact z⟩

abbrev N_first_gate : List Str := ["circuit"]
theorem sc_first_gate : FnScope N_first_gate ["circuit"] (defScope s_first_gate) := ⟨rfl, rfl, rfl, by decide +kernel, rfl, by decide +kernel, by decide +kernel⟩
theorem ok_first_gate {k : Nat} {f : Addr} {fd : FuncData} (F : FnP K "first_gate" "first_gate" s_first_gate f fd) (T : Fx mg) : FnOk P w K mg base CX0 (k + 1) f fd ["circuit"] sp_first_gate := by
  refine F.ok sc_first_gate (spX_len fun _ => rfl) (fun cdv A outer s H vs Q E hr hsp => ?_)
  refine ⟨_, PSs.nox (pss_one (ps_ret (pe_op op_add (pe_ix ix_tup (pv 0) pe_int (fun _ _ => rfl)) (pe_callB call_len2 (by rfl) T.len PySem.boot_len (pa_cons (pe_ix ix_tup (pv 0) pe_int (fun _ _ => rfl)) pa_nil))))), ?_⟩
  refine run_spX (P := P) (w := w) hsp ?_
  rintro c S H _
  dsimp only
  refine se_retD (ee_op (ee_op (ee_dat rfl (ee_lit (n_ixT rfl rfl ?_)))))
  refine ee_cb (ea_cons (ee_op (ee_dat rfl (ee_lit (n_ixT rfl rfl (ea_nil (cb_len (.inl rfl) ?_)))))))
  rw [List.length_map]
  walk_at "d"

abbrev sp_unlike : Sp := spX (fun q : Nat × List Nat => [nI q.1, nL q.2]) (fun q => q.2.length ≤ 10) (fun q d => d = .tuple [nI (unlikeN q.1 q.2 1).1, nL (unlikeN q.1 q.2 1).2])
theorem ee_unlike {Ω : Wd} {δ : List AS} {R : KR} {ta : TA} {E : XK} (h : EA P w ta Ω δ fun rs Ω1 δ1 => ∃ (t : Nat) (o : List Nat), rs = [.dat (nI t), .dat (nL o)] ∧ o.length ≤ 10 ∧ R (.dat (.tuple [nI (unlikeN t o 1).1, nL (unlikeN t o 1).2])) Ω1 δ1) : EE P w (tCall sp_unlike [] E ta) Ω δ R :=
  ee_call fun σ S H g Q q => h σ S H g Q fun vs rs Ω' δ' S' H' ⟨t, o, e, hp, z⟩ => q vs rs Ω' δ' S' H' ⟨(t, o), e, hp, fun d hd => by subst hd; exact z⟩

abbrev N_unlike : List Str := ["table", "places", "at"]
theorem sc_unlike : FnScope N_unlike ["table", "places"] (defScope s_unlike) := ⟨rfl, rfl, rfl, by decide +kernel, rfl, by decide +kernel, by decide +kernel⟩
theorem ok_unlike {k : Nat} {f : Addr} {fd : FuncData} (F : FnP K "unlike" "unlike" s_unlike f fd) (T : Fx mg) (c_joined : Cal P w K mg base k "joined" ["table", "many", "k", "j"] sp_joined) : FnOk P w K mg base CX0 (k + 1) f fd ["table", "places"] sp_unlike := by
  refine F.ok sc_unlike (spX_len fun _ => rfl) (fun cdv A outer s H vs Q E hr hsp => ?_)
  refine ⟨_, PSs.nox (pss_cons (ps_set (i := 2) sc_unlike.nd rfl (Or.inl rfl) pe_int)
    (pss_cons (ps_while PassesOwn.never (pt_cmpR op_lt (pv 2) (pe_callB call_len2 (by rfl) T.len PySem.boot_len (pa_cons (pv 1) pa_nil)) (nomark _))
    (pss_one (ps_if (pt_cmpR (op_inD (room65 hr)) (pe_ix ix_list (pv 1) (pv 2) (fun _ _ => rfl)) (pe_slice sl_list (pv 1) po_none (po_some (pv 2))) (by rfl))
    (pss_cons (ps_set (i := 0) sc_unlike.nd rfl (Or.inl rfl) (pe_cal c_joined hr (by rfl) (pa_cons (pv 0) (pa_cons (pe_callB call_len2 (by rfl) T.len PySem.boot_len (pa_cons (pv 1) pa_nil)) (pa_cons (pe_bm PySem.F.plainAttrs_list PySem.F.slot_list_index PySem.F.type_list_index mt_index (pv 1) (pa_cons (pe_ix ix_list (pv 1) (pv 2) (fun _ _ => rfl)) pa_nil)) (pa_cons (pv 2) pa_nil))))))
    (pss_one (ps_set (i := 1) sc_unlike.nd rfl (Or.inl rfl) (pe_op op_cat (pe_slice sl_list (pv 1) po_none (po_some (pv 2))) (pe_slice sl_list (pv 1) (po_some (pe_op op_add (pv 2) pe_int)) po_none)))))
    (pss_one (ps_aug (i := 2) sc_unlike.nd rfl (Or.inl rfl) pe_int ip_add)))))
    (pss_one (ps_ret (pe_tup (pa_cons (pv 0) (pa_cons (pv 1) pa_nil))))))), ?_⟩
  refine run_spX (P := P) (w := w) hsp ?_
  rintro ⟨t, o⟩ S H hp
  have hp : o.length ≤ 10 := hp
  dsimp only
  refine se_seq (se_set (ee_lit ⟨_, rfl, ?_⟩))
  refine se_seq (se_while (fun m Ω' δ' => Ω' = Wd.frm S H ∧ ∃ (t' : Nat) (ps' : List Nat) (j : Nat), m = ps'.length - j ∧ ps'.length ≤ 10 ∧ unlikeN t' ps' j = unlikeN t o 1 ∧ δ' = [.dat (nI t'), .dat (nL ps'), .dat (nI j)]) (o.length - 1) ⟨rfl, t, o, 1, rfl, hp, rfl, rfl⟩ ?_)
  rintro m Ω' δ' ⟨rfl, t', ps', j, rfl, hl, he, rfl⟩
  refine et_test (ee_op (ee_dat rfl (ee_cb (ea_cons (ee_dat rfl (ea_nil (cb_len (.inl rfl) ?_)))))))
  rw [List.length_map]
  refine n_lt rfl rfl ⟨_, rfl, fun hb => ?_, fun hb => ?_⟩
  · have hj : j < ps'.length := of_decide_eq_true hb
    have hget : ps'[j]? = some ps'[j] := List.getElem?_eq_getElem hj
    have hget' : (ps'.map nI)[j]? = some (nI ps'[j]) := by rw [List.getElem?_map, hget]; rfl
    refine se_if (et_test (ee_op (ee_op (ee_dat rfl (ee_dat rfl (n_ixL rfl hget' ?_))))))
    refine ee_new (en_sl (ee_dat rfl (eo_none (eo_some (ee_dat rfl ⟨_, rfl, _, rfl, ?_⟩)))))
    rw [cutD_take, ← List.map_take]
    refine n_in ⟨_, rfl, fun hb2 => ?_, fun hb2 => ?_⟩
    · have hin : ps'[j] ∈ ps'.take j := of_decide_eq_true hb2
      have hmem : ps'[j] ∈ ps' := List.mem_of_mem_take hin
      refine se_seq (se_set (ee_joined (ea_cons (ee_dat rfl (ea_cons (ee_cb (ea_cons (ee_dat rfl (ea_nil (cb_len (.inl rfl) ?_))))))))))
      rw [List.length_map]
      refine ea_cons (ee_index (ee_dat rfl ⟨_, rfl, ea_cons (ee_op (ee_dat rfl (ee_dat rfl (n_ixL rfl hget' (ea_nil ⟨_, rfl, hmem, ?_⟩)))))⟩))
      refine ea_cons (ee_dat rfl (ea_nil ⟨_, _, _, _, rfl, ⟨by omega, hl, by omega⟩, _, rfl, ?_⟩))
      refine se_set (ee_new (en_cat (ee_new (en_sl (ee_dat rfl (eo_none (eo_some (ee_dat rfl ⟨_, rfl, _, rfl, ?_⟩)))))))) 
      rw [cutD_take, ← List.map_take]
      refine ee_new (en_sl (ee_dat rfl (eo_some (ee_op (ee_dat rfl (ee_lit (n_add rfl rfl ⟨_, rfl, eo_none ⟨_, rfl, ?_⟩⟩)))))))
      rw [cutD_drop, ← List.map_drop]
      refine ⟨_, _, rfl, rfl, ?_, _, rfl, ?_⟩
      · rw [List.length_map, List.length_map, List.length_take, List.length_drop]
        exact Nat.le_trans (by omega : _ ≤ 20) (by decide)
      · refine ⟨_, ?_, rfl, joinN t' ps'.length (ps'.idxOf ps'[j]) j, ps'.take j ++ ps'.drop (j + 1), j, rfl, ?_, ?_, ?_⟩
        · rw [List.length_append, List.length_take, List.length_drop]
          omega
        · rw [List.length_append, List.length_take, List.length_drop]
          omega
        · rw [← he]
          conv => rhs; rw [unlikeN, dif_pos hj, if_pos hin]
        · simp only [nL, List.map_append]
          rfl
    · have hin : ¬ ps'[j] ∈ ps'.take j := of_decide_eq_false hb2
      refine se_aug rfl (ee_lit ⟨_, rfl, ?_⟩)
      refine ⟨_, ?_, rfl, t', ps', j + 1, rfl, hl, ?_, ?_⟩
      · omega
      · rw [← he]
        conv => rhs; rw [unlikeN, dif_pos hj, if_neg hin]
      · rfl
  · have hj : ¬ j < ps'.length := of_decide_eq_false hb
    have e : (t', ps') = unlikeN t o 1 := by
      rw [← he, unlikeN, dif_neg hj]
    walk_at "d"
    refine ⟨[_, _], rfl, (by show 2 ≤ sizeLine; decide), _, rfl, rfl, _, rfl, ?_⟩
    rw [← e]

abbrev sp_hung_on : Sp := spX (fun q : Nat × List Nat => [nI q.1, nL q.2]) (fun q => q.2.length ≤ 10) (fun q d => d = .tuple [nI (hungN q.1 q.2 0).1, nL (hungN q.1 q.2 0).2])
theorem ee_hung_on {Ω : Wd} {δ : List AS} {R : KR} {ta : TA} {E : XK} (h : EA P w ta Ω δ fun rs Ω1 δ1 => ∃ (t : Nat) (o : List Nat), rs = [.dat (nI t), .dat (nL o)] ∧ o.length ≤ 10 ∧ R (.dat (.tuple [nI (hungN t o 0).1, nL (hungN t o 0).2])) Ω1 δ1) : EE P w (tCall sp_hung_on [] E ta) Ω δ R :=
  ee_call fun σ S H g Q q => h σ S H g Q fun vs rs Ω' δ' S' H' ⟨t, o, e, hp, z⟩ => q vs rs Ω' δ' S' H' ⟨(t, o), e, hp, fun d hd => by subst hd; exact z⟩

abbrev N_hung_on : List Str := ["table", "places", "at"]
theorem sc_hung_on : FnScope N_hung_on ["table", "places"] (defScope s_hung_on) := ⟨rfl, rfl, rfl, by decide +kernel, rfl, by decide +kernel, by decide +kernel⟩
theorem ok_hung_on {k : Nat} {f : Addr} {fd : FuncData} (F : FnP K "hung_on" "hung_on" s_hung_on f fd) (T : Fx mg) (c_fixed : Cal P w K mg base k "fixed" ["table", "many", "k", "bit"] sp_fixed) (c_hangs : Cal P w K mg base k "hangs" ["table", "many", "k"] sp_hangs) : FnOk P w K mg base CX0 (k + 1) f fd ["table", "places"] sp_hung_on := by
  refine F.ok sc_hung_on (spX_len fun _ => rfl) (fun cdv A outer s H vs Q E hr hsp => ?_)
  refine ⟨_, PSs.nox (pss_cons (ps_set (i := 2) sc_hung_on.nd rfl (Or.inl rfl) pe_int)
    (pss_cons (ps_while PassesOwn.never (pt_cmpR op_lt (pv 2) (pe_callB call_len2 (by rfl) T.len PySem.boot_len (pa_cons (pv 1) pa_nil)) (nomark _))
    (pss_one (ps_if (pt_val (pe_cal c_hangs hr (by rfl) (pa_cons (pv 0) (pa_cons (pe_callB call_len2 (by rfl) T.len PySem.boot_len (pa_cons (pv 1) pa_nil)) (pa_cons (pv 2) pa_nil)))))
    (pss_one (ps_aug (i := 2) sc_hung_on.nd rfl (Or.inl rfl) pe_int ip_add))
    (pss_cons (ps_set (i := 0) sc_hung_on.nd rfl (Or.inl rfl) (pe_cal c_fixed hr (by rfl) (pa_cons (pv 0) (pa_cons (pe_callB call_len2 (by rfl) T.len PySem.boot_len (pa_cons (pv 1) pa_nil)) (pa_cons (pv 2) (pa_cons pe_int pa_nil))))))
    (pss_one (ps_set (i := 1) sc_hung_on.nd rfl (Or.inl rfl) (pe_op op_cat (pe_slice sl_list (pv 1) po_none (po_some (pv 2))) (pe_slice sl_list (pv 1) (po_some (pe_op op_add (pv 2) pe_int)) po_none))))))))
    (pss_one (ps_ret (pe_tup (pa_cons (pv 0) (pa_cons (pv 1) pa_nil))))))), ?_⟩
  refine run_spX (P := P) (w := w) hsp ?_
  rintro ⟨t, o⟩ S H hp
  have hp : o.length ≤ 10 := hp
  dsimp only
  refine se_seq (se_set (ee_lit ⟨_, rfl, ?_⟩))
  refine se_seq (se_while (fun m Ω' δ' => Ω' = Wd.frm S H ∧ ∃ (t' : Nat) (ps' : List Nat) (j : Nat), m = ps'.length - j ∧ ps'.length ≤ 10 ∧ hungN t' ps' j = hungN t o 0 ∧ δ' = [.dat (nI t'), .dat (nL ps'), .dat (nI j)]) (o.length - 0) ⟨rfl, t, o, 0, rfl, hp, rfl, rfl⟩ ?_)
  rintro m Ω' δ' ⟨rfl, t', ps', j, rfl, hl, he, rfl⟩
  refine et_test (ee_op (ee_dat rfl (ee_cb (ea_cons (ee_dat rfl (ea_nil (cb_len (.inl rfl) ?_)))))))
  rw [List.length_map]
  refine n_lt rfl rfl ⟨_, rfl, fun hb => ?_, fun hb => ?_⟩
  · have hj : j < ps'.length := of_decide_eq_true hb
    refine se_if (et_val (ee_hangs (ea_cons (ee_dat rfl (ea_cons (ee_cb (ea_cons (ee_dat rfl (ea_nil (cb_len (.inl rfl) ?_)))))))))) 
    rw [List.length_map]
    refine ea_cons (ee_dat rfl (ea_nil ⟨_, _, _, rfl, ⟨hl, by omega⟩, _, rfl, fun hb2 => ?_, fun hb2 => ?_⟩))
    · refine se_aug rfl (ee_lit ⟨_, rfl, ?_⟩)
      refine ⟨_, ?_, rfl, t', ps', j + 1, rfl, hl, ?_, ?_⟩
      · omega
      · rw [← he]
        conv => rhs; rw [hungN, dif_pos hj, if_pos hb2]
      · rfl
    · have hin : ¬ hangsN t' ps'.length j = true := by rw [hb2]; decide
      refine se_seq (se_set (ee_fixed (ea_cons (ee_dat rfl (ea_cons (ee_cb (ea_cons (ee_dat rfl (ea_nil (cb_len (.inl rfl) ?_))))))))))
      rw [List.length_map]
      refine ea_cons (ee_dat rfl (ea_cons (ee_lit (ea_nil ⟨_, _, _, _, rfl, ⟨by omega, hl, by omega, by decide⟩, _, rfl, ?_⟩))))
      refine se_set (ee_new (en_cat (ee_new (en_sl (ee_dat rfl (eo_none (eo_some (ee_dat rfl ⟨_, rfl, _, rfl, ?_⟩)))))))) 
      rw [cutD_take, ← List.map_take]
      refine ee_new (en_sl (ee_dat rfl (eo_some (ee_op (ee_dat rfl (ee_lit (n_add rfl rfl ⟨_, rfl, eo_none ⟨_, rfl, ?_⟩⟩)))))))
      rw [cutD_drop, ← List.map_drop]
      refine ⟨_, _, rfl, rfl, ?_, _, rfl, ?_⟩
      · rw [List.length_map, List.length_map, List.length_take, List.length_drop]
        exact Nat.le_trans (by omega : _ ≤ 20) (by decide)
      · refine ⟨_, ?_, rfl, fixN t' ps'.length j 0, ps'.take j ++ ps'.drop (j + 1), j, rfl, ?_, ?_, ?_⟩
        · rw [List.length_append, List.length_take, List.length_drop]
          omega
        · rw [List.length_append, List.length_take, List.length_drop]
          omega
        · rw [← he]
          conv => rhs; rw [hungN, dif_pos hj, if_neg hin]
        · simp only [nL, List.map_append]
          rfl
  · have hj : ¬ j < ps'.length := of_decide_eq_false hb
    have e : (t', ps') = hungN t o 0 := by
      rw [← he, hungN, dif_neg hj]
    walk_at "d"
    refine ⟨[_, _], rfl, (by show 2 ≤ sizeLine; decide), _, rfl, rfl, _, rfl, ?_⟩
    rw [← e]

theorem lexN_total (p q : Nat × Nat) : lexN p q ∨ lexN q p := by
  unfold lexN
  omega
theorem lexN_tr {p q r : Nat × Nat} (h1 : lexN p q) (h2 : lexN q r) : lexN p r := by
  unfold lexN at *
  omega
theorem lexN_anti {p q : Nat × Nat} (h1 : lexN p q) (h2 : lexN q p) : p = q := by
  unfold lexN at *
  exact Prod.ext (by omega) (by omega)
theorem lexB_iff (p q : Nat × Nat) : M.lexB p q = true ↔ lexN p q := by
  unfold M.lexB lexN
  simp
theorem sortP_pw (ps : List (Nat × Nat)) : (sortP ps).Pairwise lexN := by
  have z := List.pairwise_mergeSort (le := M.lexB) (fun a b c h1 h2 => by
    rw [lexB_iff] at *
    exact lexN_tr h1 h2) (fun a b => by
    rw [Bool.or_eq_true, lexB_iff, lexB_iff]
    exact lexN_total a b) ps
  exact z.imp fun h => (lexB_iff _ _).mp h
theorem sortP_the {qs ps : List (Nat × Nat)} (h : qs.Perm ps) (hs : qs.Pairwise lexN) : qs = sortP ps :=
  List.Perm.eq_of_pairwise (le := lexN) (fun _ _ _ _ h1 h2 => lexN_anti h1 h2) hs (sortP_pw ps) (h.trans (List.mergeSort_perm ps M.lexB).symm)
theorem sortN_the {ms ns : List Nat} (h : ms.Perm ns) (hs : ms.Pairwise (· ≤ ·)) : ms = sortN ns := by
  have z := List.pairwise_mergeSort (le := fun a b : Nat => decide (a ≤ b)) (fun a b c h1 h2 => by
    simp only [decide_eq_true_eq] at *
    omega) (fun a b => by
    simp only [Bool.or_eq_true, decide_eq_true_eq]
    omega) ns
  exact List.Perm.eq_of_pairwise (le := fun a b => a ≤ b) (fun _ _ _ _ h1 h2 => Nat.le_antisymm h1 h2) hs (z.imp fun h => of_decide_eq_true h) (h.trans (List.mergeSort_perm ns _).symm)
abbrev sp_rising : Sp := spX (fun q : Nat × List Nat => [nI q.1, nL q.2]) (fun q => q.2.length ≤ 10) (fun q d => d = .tuple [nI (risingN q.1 q.2).1, nT (risingN q.1 q.2).2])
theorem ee_rising {Ω : Wd} {δ : List AS} {R : KR} {ta : TA} {E : XK} (h : EA P w ta Ω δ fun rs Ω1 δ1 => ∃ (t : Nat) (o : List Nat), rs = [.dat (nI t), .dat (nL o)] ∧ o.length ≤ 10 ∧ R (.dat (.tuple [nI (risingN t o).1, nT (risingN t o).2])) Ω1 δ1) : EE P w (tCall sp_rising [] E ta) Ω δ R :=
  ee_call fun σ S H g Q q => h σ S H g Q fun vs rs Ω' δ' S' H' ⟨t, o, e, hp, z⟩ => q vs rs Ω' δ' S' H' ⟨(t, o), e, hp, fun d hd => by subst hd; exact z⟩

abbrev N_rising : List Str := ["table", "places", "order", "place", "at"]
theorem sc_rising : FnScope N_rising ["table", "places"] (defScope s_rising) := ⟨rfl, rfl, rfl, by decide +kernel, rfl, by decide +kernel, by decide +kernel⟩
theorem ok_rising {k : Nat} {f : Addr} {fd : FuncData} (F : FnP K "rising" "rising" s_rising f fd) (T : Fx mg) (c_ordered : Cal P w K mg base k "ordered" ["table", "order"] sp_ordered) : FnOk P w K mg base CX0 (k + 1) f fd ["table", "places"] sp_rising := by
  refine F.ok sc_rising (spX_len fun _ => rfl) (fun cdv A outer s H vs Q E hr hsp => ?_)
  refine ⟨_, PSs.nox (pss_cons (ps_setLc (i := 2) (own := [("place", 3), ("at", 4)]) (g := gTup K 2 (gCons (gName 3) (gCons (gName 4) gNil))) (by rfl) sc_rising.nd rfl rfl (sw_true rfl rfl rfl (by decide +kernel)) (pi_list (pe_callB cr_sortedPO (by rfl) T.sorted (by decide +kernel) (pa_cons (pe_lc (own := [("place", 3), ("at", 4)]) (g := gTup K 2 (gCons (gName 4) (gCons (gName 3) gNil))) (by rfl) sc_rising.nd (pi_enum (by rfl) T.enumerate (pa_cons (pv 1) pa_nil)) (blkOk_by (own := [("place", 3), ("at", 4)]) (N := N_rising) (sc := defScope s_rising) (by decide +kernel)) (fun _ _ _ _ _ => pg_tup rfl (pgs_cons (pg_name (i := 4) sc_rising.nd rfl (Or.inl rfl)) (pgs_cons (pg_name (i := 3) sc_rising.nd rfl (Or.inl rfl)) pgs_nil))) (fun _ _ _ _ _ => pts_nil) (fun _ _ _ _ _ => pe_tup (pa_cons (pv 3) (pa_cons (pv 4) pa_nil)))) pa_nil))) (blkOk_by (own := [("place", 3), ("at", 4)]) (N := N_rising) (sc := defScope s_rising) (by decide +kernel)) (fun _ _ _ _ _ => pg_tup rfl (pgs_cons (pg_name (i := 3) sc_rising.nd rfl (Or.inl rfl)) (pgs_cons (pg_name (i := 4) sc_rising.nd rfl (Or.inl rfl)) pgs_nil))) (fun _ _ _ _ _ => pts_nil) (fun _ _ _ _ _ => pv 4))
    (pss_one (ps_ret (pe_tup (pa_cons (pe_cal c_ordered hr (by rfl) (pa_cons (pv 0) (pa_cons (pv 2) pa_nil))) (pa_cons (pe_callTy call_tupOf (by rfl) T.tuple (by decide +kernel) (pa_cons (pe_callB cr_sortedI (by rfl) T.sorted (by decide +kernel) (pa_cons (pv 1) pa_nil)) pa_nil)) pa_nil)))))), ?_⟩
  refine run_spX (P := P) (w := w) hsp ?_
  rintro ⟨t, o⟩ S H hp
  have hp : o.length ≤ 10 := hp
  dsimp only
  have small : ∀ n, n ≤ 10 → n < sizeLine := fun n h => Nat.lt_of_le_of_lt h (by decide)
  refine se_seq (se_set (ee_new (en_map (es_list (ee_new (en_cb (ea_cons (ee_new (en_map (es_enum (ea_cons (ee_dat rfl (ea_nil ⟨_, rfl, rfl, ?_, fun i => nP (o.getD i 0, i), ?_, ?_⟩)))))))))))))
  · rw [enumD_len, List.length_map]
    exact small _ hp
  · intro i d hd
    obtain ⟨n, hn, rfl⟩ := enumD_at hd
    have e : o.getD i 0 = n := by rw [List.getD_eq_getElem?_getD, hn]; rfl
    refine ⟨_, gs_tup2, rfl, ?_⟩
    refine ee_tup (ea_cons (ee_dat rfl (ea_cons (ee_dat rfl (ea_nil ⟨[_, _], rfl, (by show 2 ≤ sizeLine; decide), rfl, rfl, ?_⟩)))))
    show Rs.dat (nP (n, i)) = Rs.dat (nP (o.getD i 0, i))
    rw [e]
  · have e : (List.range (enumD (o.map nI)).length).map (fun i => nP (o.getD i 0, i)) = (o.zipIdx).map nP := by
      rw [enumD_len, List.length_map]
      refine map_range_get (by rw [List.length_map, List.length_zipIdx]) fun i d hd => ?_
      rw [List.getElem?_map, List.getElem?_zipIdx] at hd
      obtain ⟨z, hz, rfl⟩ := Option.map_eq_some_iff.mp hd
      obtain ⟨n, hn, rfl⟩ := Option.map_eq_some_iff.mp hz
      rw [List.getD_eq_getElem?_getD, hn]
      simp
    rw [e]
    refine ea_nil (cn_sortedPO fun qs hq hs => ?_)
    have eq := sortP_the hq hs
    subst eq
    have hlen : (sortP o.zipIdx).length = o.length := by
      rw [hq.length_eq, List.length_zipIdx]
    have hin : ∀ p ∈ (sortP o.zipIdx).map (·.2), p ≤ 10 := fun p hp2 => by
      obtain ⟨z, hz, rfl⟩ := List.mem_map.mp hp2
      have hz2 := hq.mem_iff.mp hz
      obtain ⟨i, hi, rfl⟩ := List.getElem_of_mem hz2
      rw [List.length_zipIdx] at hi
      simp
      omega
    refine ⟨_, rfl, rfl, by rw [List.length_map, hlen]; exact small _ hp, fun i => nI ((sortP o.zipIdx).getD i (0, 0)).2, ?_, ?_⟩
    · intro i d hd
      rw [List.getElem?_map] at hd
      obtain ⟨q, hq2, rfl⟩ := Option.map_eq_some_iff.mp hd
      have e2 : (sortP o.zipIdx).getD i (0, 0) = q := by rw [List.getD_eq_getElem?_getD, hq2]; rfl
      refine ⟨_, gs_tup2, rfl, ee_dat rfl ⟨rfl, rfl, ?_⟩⟩
      show Rs.dat (nI q.2) = Rs.dat (nI ((sortP o.zipIdx).getD i (0, 0)).2)
      rw [e2]
    · have e3 : (List.range ((sortP o.zipIdx).map nP).length).map (fun i => nI ((sortP o.zipIdx).getD i (0, 0)).2) = ((sortP o.zipIdx).map (·.2)).map nI := by
        refine map_range_get (by rw [List.length_map, List.length_map, List.length_map]) fun i d hd => ?_
        rw [List.getElem?_map, List.getElem?_map] at hd
        obtain ⟨z, hz, rfl⟩ := Option.map_eq_some_iff.mp hd
        obtain ⟨n, hn, rfl⟩ := Option.map_eq_some_iff.mp hz
        rw [List.getD_eq_getElem?_getD, hn]
        rfl
      rw [e3]
      refine ⟨_, rfl, ?_⟩
      refine se_retD (ee_tup (ea_cons (ee_ordered (ea_cons (ee_dat rfl (ea_cons (ee_dat rfl (ea_nil ⟨_, _, rfl, ⟨by rw [List.length_map, hlen]; exact hp, hin⟩, ?_⟩))))))))
      refine ea_cons (ee_cb (ea_cons (ee_new (en_cb (ea_cons (ee_dat rfl (ea_nil (cn_sortedI fun ms hm hs2 => ?_))))))))
      have eq2 := sortN_the hm hs2
      subst eq2
      exact ea_nil (cb_tuple (.inl rfl) (ea_nil ⟨[_, _], rfl, (by show 2 ≤ sizeLine; decide), _, rfl, rfl, _, rfl, rfl⟩))

end
end G
set_option Elab.async false
set_option linter.all false
set_option maxRecDepth 100000
set_option maxHeartbeats 4000000
set_option autoImplicit false
/-! Dicts whose keys are data of any depth: the rules, and their readings over data. -/
namespace D
open PySem PySem.Spec PyProof.Rows L2
section
variable {X : Cx} {pins : List (Addr × Obj)} {σ : L2.St} {H : Hp} {s : Shared}
mutual
theorem nis (I : Inv X pins σ H s) : ∀ (k : NK) (v : V) (u : Value), Dq H v (NestedKey.data k) → RelV v u → NestedIs s.heap k u
  | .none, _, _, h, r => by
    simp only [NestedKey.data] at h
    cases h
    cases r
    exact NestedIs.none
  | .num i, _, _, h, r => by
    simp only [NestedKey.data] at h
    cases h
    obtain ⟨t, rfl⟩ := r
    exact NestedIs.int i t
  | .text x, _, _, h, r => by
    simp only [NestedKey.data] at h
    cases h
    obtain ⟨t, rfl⟩ := r
    exact NestedIs.text x t
  | .tup ks, _, _, h, r => by
    simp only [NestedKey.data] at h
    cases h with
    | tup h1 h2 =>
      cases r
      obtain ⟨its, rv, ⟨o, ho, hc, n, hd⟩, _⟩ := I.tuple (SqT.of h1)
      exact NestedIs.tup ho hc hd (nisAll I ks _ its h2 rv)
theorem nisAll (I : Inv X pins σ H s) : ∀ (ks : List NK) (vs : List V) (us : List Value), DqAll H vs (NestedKey.datas ks) → Vals vs us → NestedAll s.heap ks us
  | [], _, _, h, r => by
    simp only [NestedKey.datas] at h
    cases h
    cases r
    exact NestedAll.nil
  | k :: ks, _, _, h, r => by
    simp only [NestedKey.datas] at h
    cases h with
    | cons h1 h2 =>
      cases r with
      | cons r1 r2 => exact NestedAll.cons (nis I k _ _ h1 r1) (nisAll I ks _ _ h2 r2)
end
/-! ### entries -/
def valE (es : List Ent) (k : NK) : Option V := (es.find? fun e => decide (e.1 = k)).map (·.2.2)
def putE (es : List Ent) (k : NK) (b : Addr) (v : V) : List Ent :=
  if (es.any fun e => decide (e.1 = k)) = true then es.map (fun e => if e.1 = k then (e.1, e.2.1, v) else e) else es ++ [(k, b, v)]
theorem putE_len (es : List Ent) (k : NK) (b : Addr) (v : V) : (putE es k b v).length ≤ es.length + 1 := by
  unfold putE
  split
  · rw [List.length_map]; omega
  · rw [List.length_append, List.length_singleton]; omega
abbrev EntR : List Ent → List (NK × Addr × Value) → Prop := Paired fun (p : Ent) (q : NK × Addr × Value) => p.1 = q.1 ∧ p.2.1 = q.2.1 ∧ RelV p.2.2 q.2.2
theorem EntR.val {es : List Ent} {xs : List (NK × Addr × Value)} (r : EntR es xs) (k : NK) : RelO (valE es k) ((atKey xs k).map (·.2)) := by
  induction r with
  | nil => exact True.intro
  | @cons p q ps qs h t ih =>
    obtain ⟨h1, _, h2⟩ := h
    by_cases e : p.1 = k
    · have e' : q.1 = k := h1.symm.trans e
      have b : atKey (q :: qs) k = some q.2 := by simp [atKey, List.find?_cons, e']
      have a : valE (p :: ps) k = some p.2.2 := by simp [valE, List.find?_cons, e]
      rw [a, b]; exact h2
    · have e' : ¬ q.1 = k := fun z => e (h1.trans z)
      have b : atKey (q :: qs) k = atKey qs k := by simp [atKey, List.find?_cons, e']
      have a : valE (p :: ps) k = valE ps k := by simp [valE, List.find?_cons, e]
      rw [a, b]; exact ih
theorem valE_any (k : NK) : ∀ es : List Ent, (es.any fun e => decide (e.1 = k)) = (valE es k).isSome
  | [] => rfl
  | p :: r => by
    rw [List.any_cons]
    by_cases e : p.1 = k
    · have a : valE (p :: r) k = some p.2.2 := by simp [valE, List.find?_cons, e]
      rw [a]
      simp [e]
    · have a : valE (p :: r) k = valE r k := by simp [valE, List.find?_cons, e]
      rw [a, decide_eq_false e, Bool.false_or]
      exact valE_any k r
theorem EntR.put {es : List Ent} {xs : List (NK × Addr × Value)} (r : EntR es xs) (k : NK) {b : Addr} {y : V} {u : Value} (ry : RelV y u) : EntR (putE es k b y) (storedH xs k b u) := by
  have e : (es.any fun e => decide (e.1 = k)) = (atKey xs k).isSome := by
    rw [valE_any, (r.val k).isSome_eq, Option.isSome_map]
  unfold putE storedH
  rw [e]
  by_cases q : (atKey xs k).isSome = true
  · rw [if_pos q, if_pos q]
    clear e q
    induction r with
    | nil => exact .nil
    | @cons p q ps qs h t ih =>
      rw [List.map_cons, List.map_cons]
      refine .cons ?_ ih
      obtain ⟨h1, h2, h3⟩ := h
      unfold putAt
      by_cases e : p.1 = k
      · rw [if_pos e, if_pos (h1.symm.trans e)]; exact ⟨h1, h2, ry⟩
      · rw [if_neg e, if_neg (fun z => e (h1.trans z))]; exact ⟨h1, h2, h3⟩
  · rw [if_neg q, if_neg q]; exact Paired.snoc r ⟨rfl, rfl, ry⟩

/-! ### the dict as the heap has it -/
/-- the dict, and its keys' own tuples -/
def NAt (P : Program) (w : World) (H : Hp) (a : Addr) (es : List Ent) : Prop := H a = some (dN P w a es) ∧ ∀ e ∈ es, Dq H (.ref e.2.1) (NestedKey.data e.1) ∧ e.1.depth ≤ 8
def KAt (H : Hp) (b : Addr) (k : NK) : Prop := Dq H (.ref b) (NestedKey.data k) ∧ k.depth ≤ 8
theorem KAt.is (I : Inv X pins σ H s) {b : Addr} {k : NK} (h : KAt H b k) : (nestedKind X.prog X.w).is s.heap k b := ⟨nis I k _ _ h.1 rfl, h.2⟩
theorem NAt.of (I : Inv X pins σ H s) {a : Addr} {es : List Ent} (h : NAt X.prog X.w H a es) : es.length ≤ sizeLine ∧ (a == sysModules) = false ∧ ∃ xs, EntR es xs ∧ s.heap.DictOfH (nestedKind X.prog X.w) a xs := by
  obtain ⟨⟨z, y, xs, r, o, ds, ep, h1, h2, h3, h4, h5⟩, _, _⟩ := (show ObjOk X.prog X.w H s.heap a (dN X.prog X.w a es) from I.hok a _ h.1)
  refine ⟨z, y, xs, r, o, ds, ep, h1, h2, h3, h4, fun x hx => ?_, h5⟩
  have all : ∀ {l : List Ent} {m : List (NK × Addr × Value)}, EntR l m → (∀ e ∈ l, Dq H (.ref e.2.1) (NestedKey.data e.1) ∧ e.1.depth ≤ 8) → ∀ x ∈ m, (nestedKind X.prog X.w).is s.heap x.1 x.2.1 := by
    intro l m q
    induction q with
    | nil => intro _ x hx; exact nomatch hx
    | @cons p q ps qs hq t ih =>
      intro hk x hx
      rcases List.mem_cons.mp hx with e | hx
      · subst e
        rw [← hq.1, ← hq.2.1]
        exact KAt.is I (hk p List.mem_cons_self)
      · exact ih (fun e he => hk e (List.mem_cons_of_mem _ he)) x hx
  exact all r h.2 x hx
theorem room9 {A : Around} {k : Nat} (hr : Room k A) (P : Program) (w : World) : (nestedKind P w).room A.in1 := by
  show A.in1.units + 8 < cLine
  have h1 := hr.un
  have h2 : A.in1.units = A.units + 1 := rfl
  omega
theorem PhiN.stay {P : Program} {w : World} {a : Addr} {es : List Ent} : ∀ h1 h2 : Heap, PhiN P w a es h1 → (∀ o, h1.get? a = some o → h2.get? a = some o) → PhiN P w a es h2 :=
  fun h1 h2 ⟨z, y, xs, r, o, ds, ep, q1, q2⟩ k => ⟨z, y, xs, r, o, ds, ep, k o q1, q2⟩
theorem nput_ok (I : Inv X pins σ H s) {kk : Nat} (hr : Room kk X.A) {a b : Addr} {es : List Ent} {k : NK} {v : V} {u : Value} {Q : Unit → Shared → Prop} (hd : NAt X.prog X.w H a es) (hk : KAt H b k) (rv : RelV v u) (hl : es.length < sizeLine)
    (h : ∀ s', Inv X pins σ (upd H a (dN X.prog X.w a (putE es k b v))) s' → Q () s') : wpAny (model X.prog X.w) X.A (setItem (.ref a) (.ref b) u) Q X.xe s := by
  obtain ⟨z, y, xs, rel, dd⟩ := hd.of I
  have hz : xs.length ≤ sizeLine := by rw [← Paired.length rel]; exact z
  refine wpAny_setItem_heap (hsz := hz) (room9 hr _ _) (hk.is I) dd fun h' dd' hs => h _ ?_
  obtain ⟨q, ds, ep, hq, h2, h3, h4, _, h5⟩ := dd'
  refine d_write I (by rw [hd.1]; exact True.intro) hs ⟨q, hq⟩ ?_
  refine ⟨⟨?_, y, _, rel.put k rv, q, ds, ep, hq, h2, h3, h4, h5⟩, ⟨q, hq⟩, PhiN.stay⟩
  have := putE_len es k b v
  omega

/-! ### rules -/
def tNNew (P : Program) (w : World) : TE := fun _ H Q => ∀ p, H p = none → Q (.ref p) (upd H p (dN P w p []))
theorem pe_dnewN {pos : Pos} : PE X (.Dict [] [] pos) (tNNew X.prog X.w) := ⟨fun pins s σ H Q I h => by
  refine wpAny_Dict_empty ⟨.ref s.heap.objs.size, _, I.laid (a := s.heap.objs.size) (o := dN X.prog X.w s.heap.objs.size []) (t' := s.toks) (fun _ _ q => Heap.get?_push_of_some _ q) (Nat.le_refl _) ?_, rfl, h _ (I.hok.fresh (Nat.le_refl _))⟩
  have g : (s.heap.push { cls := .type "dict", data := .dict #[] }).get? s.heap.objs.size = some { cls := .type "dict", data := .dict #[] } := Heap.get?_push_size _ rfl
  exact ⟨⟨Nat.zero_le _, beq_eq_false_iff_ne.mpr (Ne.symm (Nat.ne_of_lt I.big)), [], .nil, _, #[], 0, g, ⟨rfl, rfl, rfl⟩, rfl, rfl, List.nodup_nil⟩, ⟨_, g⟩, PhiN.stay⟩⟩
def tNGet (P : Program) (w : World) (td ty : TE) : TE := fun σ H Q => td σ H fun x H1 => ty σ H1 fun y H2 => ∃ a es b k v, x = .ref a ∧ y = .ref b ∧ NAt P w H2 a es ∧ KAt H2 b k ∧ valE es k = some v ∧ Q v H2
def tNIn (P : Program) (w : World) (neg : Bool) (ty td : TE) : TE := fun σ H Q => ty σ H fun y H1 => td σ H1 fun x H2 => ∃ a es b k, x = .ref a ∧ y = .ref b ∧ NAt P w H2 a es ∧ KAt H2 b k ∧ Q (.bl (if neg then !(valE es k).isSome else (valE es k).isSome)) H2
def sNPut (P : Program) (w : World) (td ty tv : TE) : TS := fun D σ H => tv σ H fun v H1 => td σ H1 fun x H2 => ty σ H2 fun y H3 => ∃ a es b k, x = .ref a ∧ y = .ref b ∧ NAt P w H3 a es ∧ KAt H3 b k ∧ es.length < sizeLine ∧ D.nx σ (upd H3 a (dN P w a (putE es k b v)))
def rNLen (P : Program) (w : World) : List V → Hp → VK → Prop := fun xs H Q => ∃ a es, xs = [.ref a] ∧ NAt P w H a es ∧ Q (.int (es.length : Int)) H
end
section
variable {X : Cx} {o i value : Expr} {pos pos' : Pos} {td ty tv : TE} {kk : Nat}
theorem pe_nget (hr : Room kk X.A) (ho : PE X o td) (hi : PE X i ty) (hs : NoSl i) : PE X (.Subscript o i pos) (tNGet X.prog X.w td ty) := by
  refine ⟨fun pins s σ H Q I h => ?_⟩
  refine subD_of PySem.F.slot_dict_getitem.lookup hs (thn (ho.run pins s σ H _ I h) fun u s1 ⟨x, H1, I1, rx, q1⟩ => thn (hi.run pins s1 σ H1 _ I1 q1) fun iv s2 ⟨y, H2, I2, ry, a, es, b, k, v, ex, ey, hd, hk, hv, q2⟩ => ?_)
  subst ex ey
  obtain rfl : u = Value.ref a := rx
  obtain rfl : iv = Value.ref b := ry
  obtain ⟨z, y, xs, rel, dd⟩ := hd.of I2
  obtain ⟨w', hw, rw'⟩ := RelO.some_of (v := v) (o := (atKey xs k).map (·.2)) (by rw [← hv]; exact rel.val k)
  obtain ⟨p, hp, hp2⟩ := Option.map_eq_some_iff.mp hw
  refine ⟨dd.typeIs, wpAny_getItem_heap (room9 hr _ _) (hk.is I2) dd hp ?_⟩
  rw [hp2]
  exact ⟨v, H2, I2.tok _, rw', q2⟩
theorem pc_nin (hr : Room kk X.A) (hi : PE X i ty) (ho : PE X o td) : PC X .In i o (tNIn X.prog X.w false ty td) := by
  refine ⟨fun pins s σ H Q I h => ?_⟩
  refine thn (hi.run pins s σ H _ I h) fun iv s1 ⟨y, H1, I1, ry, q1⟩ => thn (ho.run pins s1 σ H1 _ I1 q1) fun u s2 ⟨x, H2, I2, rx, a, es, b, k, ex, ey, hd, hk, q2⟩ => ?_
  subst ex ey
  obtain rfl : u = Value.ref a := rx
  obtain rfl : iv = Value.ref b := ry
  obtain ⟨z, y, xs, rel, dd⟩ := hd.of I2
  refine wpAny_in_heap (room9 hr _ _) (hk.is I2) y dd ?_
  have e := (rel.val k).isSome_eq
  rw [Option.isSome_map] at e
  rw [← e]
  exact ⟨.bl _, H2, I2.tok _, rfl, q2⟩
theorem pc_nnotin (hr : Room kk X.A) (hi : PE X i ty) (ho : PE X o td) : PC X .NotIn i o (tNIn X.prog X.w true ty td) := by
  refine ⟨fun pins s σ H Q I h => ?_⟩
  refine thn (hi.run pins s σ H _ I h) fun iv s1 ⟨y, H1, I1, ry, q1⟩ => thn (ho.run pins s1 σ H1 _ I1 q1) fun u s2 ⟨x, H2, I2, rx, a, es, b, k, ex, ey, hd, hk, q2⟩ => ?_
  subst ex ey
  obtain rfl : u = Value.ref a := rx
  obtain rfl : iv = Value.ref b := ry
  obtain ⟨z, y, xs, rel, dd⟩ := hd.of I2
  have e := (rel.val k).isSome_eq
  rw [Option.isSome_map] at e
  refine wpAny_notIn_heap (room9 hr _ _) (hk.is I2) y dd ?_
  rw [← e]
  exact ⟨.bl _, H2, I2.tok _, rfl, q2⟩
theorem ps_nput (hr : Room kk X.A) (ho : PE X o td) (hi : PE X i ty) (hv : PE X value tv) (hs : swapsWith value (some (.Subscript o i pos')) pos.line X.env = pure false) :
    PS X (.Assign [.Subscript o i pos'] value pos) (sNPut X.prog X.w td ty tv) := by
  refine ⟨fun pins s σ H D I h => ?_⟩
  refine wpAny_Assign_Subscript (thn (hv.run pins s σ H _ I h) fun r s1 ⟨v, H1, I1, rv, q1⟩ => thn (ho.run pins s1 σ H1 _ I1 q1) fun u s2 ⟨x, H2, I2, rx, q2⟩ => thn (hi.run pins s2 σ H2 _ I2 q2) fun iv s3 ⟨y, H3, I3, ry, a, es, b, k, ex, ey, hd, hk, hl, q3⟩ => ?_) hs
  subst ex ey
  obtain rfl : u = Value.ref a := rx
  obtain rfl : iv = Value.ref b := ry
  exact nput_ok I3 hr hd hk rv hl fun s4 I4 => ⟨σ, _, I4, q3⟩
theorem call_lenN : CallR X (.builtin "len") (rNLen X.prog X.w) := by
  intro pins s σ H xs us Q I r h
  obtain ⟨p, es, rfl, hp, q⟩ := h
  obtain ⟨u, rfl, rx⟩ := vals1 r
  obtain rfl : u = .ref p := rx
  obtain ⟨z, hd, ys, rel, dd⟩ := hp.of I
  have hl : es.length = ys.length := Paired.length rel
  refine call_len_dictH hd dd (by rw [sizeLine_eq] at z; omega) ?_
  rw [← hl]
  exact ⟨.int _, H, I.tok _, ⟨_, rfl⟩, q⟩
end
end D
set_option Elab.async false
set_option linter.all false
set_option maxRecDepth 100000
set_option maxHeartbeats 4000000
set_option autoImplicit false
/-! Worlds told by cells: what stands at some addresses; promises of defs that change them. -/
namespace D
open PySem PySem.Spec PyProof.Rows L2
/-! ### tables over data -/
def lookD (kvs : List (NK × PyData)) (k : NK) : Option PyData := (kvs.find? fun e => decide (e.1 = k)).map (·.2)
def putD (kvs : List (NK × PyData)) (k : NK) (d : PyData) : List (NK × PyData) :=
  if (kvs.any fun e => decide (e.1 = k)) = true then kvs.map (fun e => if e.1 = k then (e.1, d) else e) else kvs ++ [(k, d)]
def RelD (S : Hp) : Option V → Option PyData → Prop
  | some v, some d => Dq S v d
  | none, none => True
  | _, _ => False
theorem EntOk.val {S : Hp} {es : List Ent} {kvs : List (NK × PyData)} (r : EntOk S es kvs) (k : NK) : RelD S (valE es k) (lookD kvs k) := by
  induction r with
  | nil => exact True.intro
  | @cons p q ps qs h t ih =>
    obtain ⟨h1, _, h2⟩ := h
    by_cases e : p.1 = k
    · have e' : q.1 = k := h1.symm.trans e
      have b : lookD (q :: qs) k = some q.2 := by simp [lookD, List.find?_cons, e']
      have a : valE (p :: ps) k = some p.2.2 := by simp [valE, List.find?_cons, e]
      rw [a, b]; exact h2
    · have e' : ¬ q.1 = k := fun z => e (h1.trans z)
      have b : lookD (q :: qs) k = lookD qs k := by simp [lookD, List.find?_cons, e']
      have a : valE (p :: ps) k = valE ps k := by simp [valE, List.find?_cons, e]
      rw [a, b]; exact ih
theorem RelD.isSome {S : Hp} {a : Option V} {b : Option PyData} (r : RelD S a b) : a.isSome = b.isSome := by
  cases a with
  | none => cases b with
    | none => rfl
    | some _ => exact (show False from r).elim
  | some _ => cases b with
    | none => exact (show False from r).elim
    | some _ => rfl
theorem RelD.some {S : Hp} {a : Option V} {d : PyData} (r : RelD S a (some d)) : ∃ v, a = some v ∧ Dq S v d := by
  cases a with
  | none => exact (show False from r).elim
  | some v => exact ⟨v, rfl, r⟩
theorem lookD_any (k : NK) : ∀ kvs : List (NK × PyData), (kvs.any fun e => decide (e.1 = k)) = (lookD kvs k).isSome
  | [] => rfl
  | p :: r => by
    rw [List.any_cons]
    by_cases e : p.1 = k
    · have a : lookD (p :: r) k = some p.2 := by simp [lookD, List.find?_cons, e]
      rw [a]
      simp [e]
    · have a : lookD (p :: r) k = lookD r k := by simp [lookD, List.find?_cons, e]
      rw [a, decide_eq_false e, Bool.false_or]
      exact lookD_any k r
theorem EntOk.put {S : Hp} {es : List Ent} {kvs : List (NK × PyData)} (r : EntOk S es kvs) {k : NK} {b : Addr} {v : V} {d : PyData} (hk : KAt S b k) (hv : Dq S v d) : EntOk S (putE es k b v) (putD kvs k d) := by
  have e : (es.any fun e => decide (e.1 = k)) = (kvs.any fun e => decide (e.1 = k)) := by
    rw [valE_any, lookD_any, (r.val k).isSome]
  unfold putE putD
  rw [e]
  by_cases q : (kvs.any fun e => decide (e.1 = k)) = true
  · rw [if_pos q, if_pos q]
    clear e q
    induction r with
    | nil => exact .nil
    | @cons p q ps qs h t ih =>
      rw [List.map_cons, List.map_cons]
      refine .cons ?_ ih
      obtain ⟨h1, h2, h3⟩ := h
      by_cases e : p.1 = k
      · rw [if_pos e, if_pos (h1.symm.trans e)]; exact ⟨h1, h2, hv⟩
      · rw [if_neg e, if_neg (fun z => e (h1.trans z))]; exact ⟨h1, h2, h3⟩
  · rw [if_neg q, if_neg q]; exact Paired.snoc r ⟨rfl, hk, hv⟩
theorem EntOk.nat {P : Program} {w : World} {S H : Hp} {a : Addr} {es : List Ent} {kvs : List (NK × PyData)} (r : EntOk S es kvs) (e : Same S H) (h : H a = some (dN P w a es)) : NAt P w H a es := ⟨h, fun x hx => by
  obtain ⟨j, y, _, _, z⟩ := paired_at r hx
  exact ⟨Dq.mono e z.2.1.1, z.2.1.2⟩⟩
where
  paired_at : ∀ {es : List Ent} {kvs : List (NK × PyData)}, EntOk S es kvs → ∀ {x : Ent}, x ∈ es → ∃ (j : Nat) (y : NK × PyData), es[j]? = some x ∧ kvs[j]? = some y ∧ (x.1 = y.1 ∧ (Dq S (.ref x.2.1) (NestedKey.data x.1) ∧ x.1.depth ≤ 8) ∧ Dq S x.2.2 y.2)
    | _, _, .cons h t, x, hx => by
      rcases List.mem_cons.mp hx with e | hx
      · rw [e]
        exact ⟨0, _, rfl, rfl, h⟩
      · obtain ⟨j, y, e1, e2, e3⟩ := paired_at t hx
        exact ⟨j + 1, y, e1, e2, e3⟩

/-! ### cells -/
structure Cell where
  ok : Hp → HO → Prop
  mono : ∀ S S' o, Same S S' → ok S o → ok S' o
def Cell.lst (ds : List PyData) : Cell := ⟨fun S o => ∃ xs, o = .lst xs ∧ DqAll S xs ds, fun _ _ _ e ⟨xs, h, q⟩ => ⟨xs, h, q.mono e⟩⟩
/-- a list of exactly these values -/
def Cell.lstV (vs : List V) : Cell := ⟨fun S o => o = .lst vs, fun _ _ _ _ h => h⟩
/-- an instance: its attributes' names, what is known of their values -/
def Cell.ins (C : Addr) (ns : List Str) (rs : List Rs) : Cell := ⟨fun S o => ∃ dx vs, o = .ins C dx vs ∧ vs.map (·.1) = ns ∧ Paired (ResOk [] S) (vs.map (·.2)) rs, fun _ _ _ e ⟨dx, vs, h, n, q⟩ => ⟨dx, vs, h, n, Paired.mapP q fun _ _ z => ResOk.mono z e⟩⟩
def Cell.dic (P : Program) (w : World) (a : Addr) (kvs : List (NK × PyData)) : Cell := ⟨fun S o => ∃ es, o = dN P w a es ∧ EntOk S es kvs, fun _ _ _ e ⟨es, h, q⟩ => ⟨es, h, EntOk.mono q e⟩⟩
abbrev DkOk (S : Hp) : List (Key × V) → List (Int × PyData) → Prop := Paired fun (p : Key × V) (q : Int × PyData) => p.1 = Sum.inl q.1 ∧ Dq S p.2 q.2
def Cell.dk (kvs : List (Int × PyData)) : Cell := ⟨fun S o => ∃ es, o = .dK es ∧ DkOk S es kvs, fun _ _ _ e ⟨es, h, q⟩ => ⟨es, h, Paired.mapP q fun _ _ z => ⟨z.1, z.2.mono e⟩⟩⟩
/-- one of a family -/
def Cell.any {ι : Type} (c : ι → Cell) (p : ι → Prop) : Cell := ⟨fun S o => ∃ i, p i ∧ (c i).ok S o, fun S S' o e ⟨i, h, q⟩ => ⟨i, h, (c i).mono S S' o e q⟩⟩
abbrev Cells := List (Addr × Cell)
abbrev adr (cs : Cells) : List Addr := cs.map (·.1)
structure CsOk (S H : Hp) (cs : Cells) : Prop where
  at_ : ∀ x ∈ cs, S x.1 = none ∧ ∃ o, H x.1 = some o ∧ x.2.ok S o
  nd : (adr cs).Nodup
theorem CsOk.nil {S H : Hp} : CsOk S H [] := ⟨fun _ h => (nomatch h), List.nodup_nil⟩
theorem CsOk.left {S H : Hp} {a b : Cells} (h : CsOk S H (a ++ b)) : CsOk S H a := ⟨fun x hx => h.at_ x (List.mem_append_left _ hx), by
  have z := h.nd
  rw [adr, List.map_append] at z
  exact (List.nodup_append.mp z).1⟩
theorem CsOk.right {S H : Hp} {a b : Cells} (h : CsOk S H (a ++ b)) : CsOk S H b := ⟨fun x hx => h.at_ x (List.mem_append_right _ hx), by
  have z := h.nd
  rw [adr, List.map_append] at z
  exact (List.nodup_append.mp z).2.1⟩
/-- the world of a def that may change the objects at M of its entry (S0, H0): cs stands now -/
def Wd.sym (S0 H0 : Hp) (M : List Addr) (cs : Cells) : Wd where
  F := fun q => (∃ o, H0 q = some o) ∨ q ∈ adr cs
  W := fun S' H' => Same S0 S' ∧ (∀ q o, H0 q = some o → q ∉ M → H' q = some o ∧ S' q = S0 q) ∧ CsOk S' H' cs ∧ ∀ x ∈ cs, x.1 ∈ M ∨ H0 x.1 = none
  cl := fun S1 H1 S2 H2 ⟨h1, h2, h3, h4⟩ e k => ⟨h1.trans e, fun q o hq hm => by
    obtain ⟨k1, k2⟩ := k q (.inl ⟨o, hq⟩)
    obtain ⟨z1, z2⟩ := h2 q o hq hm
    exact ⟨k2.trans z1, k1.trans z2⟩, ⟨fun x hx => (by
    obtain ⟨k1, k2⟩ := k x.1 (.inr (List.mem_map_of_mem hx))
    obtain ⟨z1, o, z2, z3⟩ := h3.at_ x hx
    exact ⟨k1.trans z1, o, k2.trans z2, x.2.mono _ _ _ e z3⟩), h3.nd⟩, h4⟩
section
variable {P : Program} {w : World} {S0 H0 S H S1 H1 : Hp} {M : List Addr} {cs : Cells} {δ : List AS} {σ : L2.St} {n : Nat} {a : Addr} {c c' : Cell} {o : HO}
theorem cell_at (h : CsOk S H cs) (hn : cs[n]? = some (a, c)) : S a = none ∧ ∃ o, H a = some o ∧ c.ok S o := h.at_ (a, c) (List.mem_of_getElem? hn)
theorem adr_set (hn : cs[n]? = some (a, c)) : adr (cs.set n (a, c')) = adr cs := by
  unfold adr
  rw [List.map_set]
  refine List.ext_getElem? fun i => ?_
  by_cases e : n = i
  · subst e
    have hlt := (List.getElem?_eq_some_iff.mp hn).1
    rw [List.getElem?_set_self (by rw [List.length_map]; exact hlt), List.getElem?_map, hn]
    rfl
  · rw [List.getElem?_set_ne e]
theorem nd_unique (h : (adr cs).Nodup) {i j : Nat} {x y : Addr × Cell} (hi : cs[i]? = some x) (hj : cs[j]? = some y) (e : x.1 = y.1) : i = j := by
  have h1 : (adr cs)[i]? = some x.1 := by rw [adr, List.getElem?_map, hi]; rfl
  have h2 : (adr cs)[j]? = some y.1 := by rw [adr, List.getElem?_map, hj]; rfl
  rw [e] at h1
  obtain ⟨l1, e1⟩ := List.getElem?_eq_some_iff.mp h1
  obtain ⟨l2, e2⟩ := List.getElem?_eq_some_iff.mp h2
  exact (List.getElem_inj h).mp (e1.trans e2.symm)
/-- a cell is written -/
theorem Good.cell (g : Good P w (Wd.sym S0 H0 M cs) δ σ S H) (hn : cs[n]? = some (a, c)) (ho : c'.ok S o) :
    Good P w (Wd.sym S0 H0 M (cs.set n (a, c'))) δ σ S (upd H a o) ∧ Step (Wd.sym S0 H0 M cs) δ σ S H (Wd.sym S0 H0 M (cs.set n (a, c'))) δ σ S (upd H a o) := by
  obtain ⟨w1, w2, w3, w4⟩ := g.wld
  obtain ⟨hS, o0, hH, _⟩ := cell_at w3 hn
  have hmem : (a, c) ∈ cs := List.mem_of_getElem? hn
  have hlt := (List.getElem?_eq_some_iff.mp hn).1
  have eF : ∀ q, (Wd.sym S0 H0 M (cs.set n (a, c'))).F q ↔ (Wd.sym S0 H0 M cs).F q := fun q => by
    show (_ ∨ q ∈ adr (cs.set n (a, c'))) ↔ (_ ∨ q ∈ adr cs)
    rw [adr_set hn]
  have hFa : (Wd.sym S0 H0 M cs).F a := .inr (List.mem_map_of_mem hmem)
  have sub : Same S (upd H a o) := fun b u e => by
    rw [upd_ne (fun z => by rw [z, hS] at e; cases e)]
    exact g.sub b u e
  refine ⟨⟨sub, ⟨w1, fun q u hq hm => ?_, ⟨fun x hx => ?_, by rw [adr_set hn]; exact w3.nd⟩, fun x hx => ?_⟩, fun q hq => ?_, g.len, fun i b e => ?_, g.dist⟩, Same.refl S, fun q u hq hT => ?_, fun q u hq => ?_⟩
  · obtain ⟨z1, z2⟩ := w2 q u hq hm
    have ne : q ≠ a := fun e => by
      rcases w4 (a, c) hmem with z | z
      · exact hm (e ▸ z)
      · rw [e] at hq
        rw [hq] at z
        cases z
    exact ⟨(upd_ne ne).trans z1, z2⟩
  · obtain ⟨i, hi⟩ := List.mem_iff_getElem?.mp hx
    by_cases e : n = i
    · subst e
      rw [List.getElem?_set_self hlt] at hi
      cases hi
      exact ⟨hS, o, upd_same, ho⟩
    · rw [List.getElem?_set_ne e] at hi
      obtain ⟨z1, u, z2, z3⟩ := w3.at_ x (List.mem_of_getElem? hi)
      have ne : x.1 ≠ a := fun q => e (nd_unique w3.nd hn hi q.symm)
      exact ⟨z1, u, (upd_ne ne).trans z2, z3⟩
  · have hx1 : x.1 ∈ adr cs := by
      rw [← adr_set (c' := c') hn]
      exact List.mem_map_of_mem hx
    obtain ⟨y, hy, e⟩ := List.mem_map.mp hx1
    rw [← e]
    exact w4 y hy
  · by_cases e : q = a
    · exact ⟨o, by rw [e]; exact upd_same⟩
    · obtain ⟨u, hu⟩ := g.fok q ((eF q).mp hq)
      exact ⟨u, (upd_ne e).trans hu⟩
  · have z := g.slot i b e
    cases b with
    | un => trivial
    | raw v => exact z
    | dat d => exact z
    | own ds =>
      obtain ⟨p, xs, q1, q2, q3, q4, q5⟩ := z
      have ne : p ≠ a := fun y => q2 (y ▸ hFa)
      exact ⟨p, xs, q1, fun y => q2 ((eF p).mp y), q3, (upd_ne ne).trans q4, q5⟩
    | dic ds =>
      obtain ⟨p, xs, q1, q2, q3, q4, q5⟩ := z
      have ne : p ≠ a := fun y => q2 (y ▸ hFa)
      exact ⟨p, xs, q1, fun y => q2 ((eF p).mp y), q3, (upd_ne ne).trans q4, q5⟩
  · have ne : q ≠ a := fun e => hT (.inl (e ▸ hFa))
    exact ⟨(upd_ne ne).trans hq, rfl, fun t => hT (t.imp (fun y => (eF q).mp y) id)⟩
  · by_cases e : q = a
    · exact ⟨o, by rw [e]; exact upd_same⟩
    · exact ⟨u, (upd_ne e).trans hq⟩
/-- a new thing of ours becomes a cell -/
theorem Good.cellNew (g : Good P w (Wd.sym S0 H0 M cs) δ σ S H) (ha : H a = some o) (hS : S a = none) (hT : ¬ Tch (Wd.sym S0 H0 M cs) δ σ a) (hc : c.ok S o) : Good P w (Wd.sym S0 H0 M ((a, c) :: cs)) δ σ S H := by
  obtain ⟨w1, w2, w3, w4⟩ := g.wld
  have hF : ¬ (Wd.sym S0 H0 M cs).F a := fun z => hT (.inl z)
  refine ⟨g.sub, ⟨w1, w2, ⟨fun x hx => ?_, ?_⟩, fun x hx => ?_⟩, fun q hq => ?_, g.len, fun i b e => ?_, g.dist⟩
  · rcases List.mem_cons.mp hx with rfl | hx
    · exact ⟨hS, o, ha, hc⟩
    · exact w3.at_ x hx
  · show (a :: adr cs).Nodup
    exact List.nodup_cons.mpr ⟨fun z => hF (.inr z), w3.nd⟩
  · rcases List.mem_cons.mp hx with rfl | hx
    · refine .inr ?_
      cases e : H0 a with
      | none => rfl
      | some u => exact absurd (.inl ⟨u, e⟩) hF
    · exact w4 x hx
  · rcases hq with hq | hq
    · exact g.fok q (.inl hq)
    · rcases List.mem_cons.mp (show q ∈ a :: adr cs from hq) with e | hq
      · exact ⟨o, by rw [e]; exact ha⟩
      · exact g.fok q (.inr hq)
  · have z := g.slot i b e
    have nF : ∀ p : Addr, p ≠ a → ¬ (Wd.sym S0 H0 M cs).F p → ¬ (Wd.sym S0 H0 M ((a, c) :: cs)).F p := fun p hp q y => by
      rcases y with y | y
      · exact q (.inl y)
      · rcases List.mem_cons.mp (show p ∈ a :: adr cs from y) with e | y
        · exact hp e
        · exact q (.inr y)
    cases b with
    | un => trivial
    | raw v => exact z
    | dat d => exact z
    | own ds =>
      obtain ⟨p, xs, q1, q2, q3, q4, q5⟩ := z
      have ne : p ≠ a := fun y => hT (.inr ⟨i, ⟨_, e, rfl⟩, by rw [join_some q1, y]⟩)
      exact ⟨p, xs, q1, nF p ne q2, q3, q4, q5⟩
    | dic ds =>
      obtain ⟨p, xs, q1, q2, q3, q4, q5⟩ := z
      have ne : p ≠ a := fun y => hT (.inr ⟨i, ⟨_, e, rfl⟩, by rw [join_some q1, y]⟩)
      exact ⟨p, xs, q1, nF p ne q2, q3, q4, q5⟩
/-- .. told of a step in which it is new -/
theorem Step.cellNew {Ω : Wd} {δ0 : List AS} {Sa Ha : Hp} {σ0 : L2.St} (s : Step Ω δ0 σ0 Sa Ha (Wd.sym S0 H0 M cs) δ σ S H) (hn : Ha a = none) : Step Ω δ0 σ0 Sa Ha (Wd.sym S0 H0 M ((a, c) :: cs)) δ σ S H :=
  ⟨s.same, fun q u hq hT => by
    obtain ⟨z1, z2, z3⟩ := s.keep q u hq hT
    refine ⟨z1, z2, fun t => z3 (t.imp (fun y => ?_) id)⟩
    rcases y with y | y
    · exact .inl y
    · rcases List.mem_cons.mp (show q ∈ a :: adr cs from y) with e | y
      · rw [e, hn] at hq
        cases hq
      · exact .inr y, s.dom⟩
/-- the cells in another order -/
theorem Good.perm {cs' : Cells} (g : Good P w (Wd.sym S0 H0 M cs) δ σ S H) (hp : cs.Perm cs') : Good P w (Wd.sym S0 H0 M cs') δ σ S H ∧ Step (Wd.sym S0 H0 M cs) δ σ S H (Wd.sym S0 H0 M cs') δ σ S H := by
  have ha : (adr cs).Perm (adr cs') := hp.map _
  have eF : ∀ q, (Wd.sym S0 H0 M cs').F q ↔ (Wd.sym S0 H0 M cs).F q := fun q => by
    show (_ ∨ q ∈ adr cs') ↔ (_ ∨ q ∈ adr cs)
    rw [ha.mem_iff]
  obtain ⟨w1, w2, w3, w4⟩ := g.wld
  refine ⟨⟨g.sub, ⟨w1, w2, ⟨fun x hx => w3.at_ x (hp.mem_iff.mpr hx), ha.nodup_iff.mp w3.nd⟩, fun x hx => w4 x (hp.mem_iff.mpr hx)⟩, fun q hq => g.fok q ((eF q).mp hq), g.len, fun i b e => ?_, g.dist⟩, Same.refl S, fun q u hq hT => ⟨hq, rfl, fun t => hT (t.imp (fun y => (eF q).mp y) id)⟩, fun q u hq => ⟨u, hq⟩⟩
  have z := g.slot i b e
  cases b with
  | un => trivial
  | raw v => exact z
  | dat d => exact z
  | own ds => obtain ⟨p, xs, q1, q2, q3⟩ := z; exact ⟨p, xs, q1, fun y => q2 ((eF p).mp y), q3⟩
  | dic ds => obtain ⟨p, xs, q1, q2, q3⟩ := z; exact ⟨p, xs, q1, fun y => q2 ((eF p).mp y), q3⟩
end

/-! ### promises of defs with objects -/
def spG {ι : Type} (args : ι → List Rs) (hyp : ι → Hp → Hp → Prop) (pre : ι → Cells) (post : ι → Rs → Cells → Prop) : Sp := fun vs H Q _ => ∃ (i : ι) (S : Hp), Same S H ∧ Paired (ResOk [] S) vs (args i) ∧ hyp i S H ∧ CsOk S H (pre i) ∧
  ∀ v r cs S' H', post i r cs → Same S S' → Same S' H' → (∀ q o, H q = some o → q ∉ adr (pre i) → H' q = some o ∧ S' q = S q) → (∀ q o, H q = some o → ∃ o', H' q = some o') → CsOk S' H' cs → (∀ x ∈ cs, x.1 ∈ adr (pre i) ∨ H x.1 = none) → ResOk [] S' v r → Q v H'
theorem spG_len {ι : Type} {args : ι → List Rs} {hyp : ι → Hp → Hp → Prop} {pre : ι → Cells} {post : ι → Rs → Cells → Prop} {n : Nat} (hl : ∀ i, (args i).length = n) : ∀ vs H Q E, spG args hyp pre post vs H Q E → vs.length = n := fun vs H Q E ⟨i, S, _, h, _⟩ => by
  rw [Paired.length h, hl]
def asOf : Rs → AS
  | .dat d => .dat d
  | .raw v => .raw v
  | .own _ => .un
def iniG (N : List Str) (rs : List Rs) : List AS := rs.map asOf ++ List.replicate (N.length - rs.length) AS.un
section
variable {P : Program} {w : World} {S0 H0 S H S1 H1 : Hp} {M : List Addr} {cs : Cells}
theorem slots_iniG {F : Addr → Prop} : ∀ {vs : List V} {rs : List Rs} {n : Nat}, Paired (ResOk [] S) vs rs → ∀ (i : Nat) (a : AS), (rs.map asOf ++ List.replicate n AS.un)[i]? = some a → SlotOk P w F S H a ((vs.map some ++ List.replicate n none)[i]?.join)
  | _, _, n, .nil, i, a, e => by
    rw [List.map_nil, List.nil_append, List.getElem?_replicate] at e
    split at e
    · cases e
      trivial
    · cases e
  | _, _, n, .cons (b := r) h t, 0, a, e => by
    rw [List.map_cons, List.cons_append, List.getElem?_cons_zero] at e
    cases e
    cases r with
    | dat d => exact ⟨_, rfl, h⟩
    | raw v => exact congrArg some (show _ = v from h)
    | own j => trivial
  | _, _, n, .cons h t, i + 1, a, e => by
    rw [List.map_cons, List.cons_append, List.getElem?_cons_succ] at e
    have z := slots_iniG (F := F) (n := n) t i a e
    rw [List.map_cons, List.cons_append, List.getElem?_cons_succ]
    exact z
theorem iniG_notMine {rs : List Rs} {n i : Nat} {a : AS} (h : (rs.map asOf ++ List.replicate n AS.un)[i]? = some a) : a.mine = false := by
  have m := List.mem_of_getElem? h
  rcases List.mem_append.mp m with m | m
  · obtain ⟨d, _, rfl⟩ := List.mem_map.mp m
    cases d <;> rfl
  · rw [(List.mem_replicate.mp m).2]
    rfl
theorem good_iniG {N : List Str} {vs : List V} {rs : List Rs} (e : Same S H) (h : Paired (ResOk [] S) vs rs) (hc : CsOk S H cs) : Good P w (Wd.sym S H (adr cs) cs) (iniG N rs) (start N vs) S H where
  sub := e
  wld := ⟨Same.refl S, fun q o hq _ => ⟨hq, rfl⟩, hc, fun x hx => .inl (List.mem_map_of_mem hx)⟩
  fok := fun p hp => by
    rcases hp with hp | hp
    · exact hp
    · obtain ⟨x, hx, rfl⟩ := List.mem_map.mp hp
      obtain ⟨_, o, z, _⟩ := hc.at_ x hx
      exact ⟨o, z⟩
  len := by
    show (vs.map some ++ List.replicate (N.length - vs.length) none).length = (rs.map asOf ++ List.replicate (N.length - rs.length) AS.un).length
    rw [List.length_append, List.length_append, List.length_map, List.length_map, List.length_replicate, List.length_replicate, Paired.length h]
  slot := fun i a q => by
    show SlotOk P w _ S H a ((vs.map some ++ List.replicate (N.length - vs.length) none)[i]?.join)
    rw [Paired.length h]
    exact slots_iniG h i a q
  dist := fun i j q m _ => by
    obtain ⟨⟨a, e1, e2⟩, _⟩ := m
    rw [iniG_notMine e1] at e2
    cases e2
theorem run_spG {ι : Type} {args : ι → List Rs} {hyp : ι → Hp → Hp → Prop} {pre : ι → Cells} {post : ι → Rs → Cells → Prop} {N : List Str} {ts : TS} {vs : List V} {Q : VK} {E : XK} (hsp : spG args hyp pre post vs H Q E)
    (h : ∀ i S H, hyp i S H → SE P w ts (Wd.sym S H (adr (pre i)) (pre i)) (iniG N (args i)) ⟨fun Ω' _ => ∃ cs, Ω' = Wd.sym S H (adr (pre i)) cs ∧ post i (.dat .none) cs, fun r Ω' => ∃ cs, Ω' = Wd.sym S H (adr (pre i)) cs ∧ (∀ j, r ≠ .own j) ∧ post i r cs, fun _ _ => False, fun _ _ => False⟩) : ts { nx := fun _ H' => Q .non H', rt := Q } (start N vs) H := by
  obtain ⟨i, S, e, hv, hy, hc, k⟩ := hsp
  have g := good_iniG (P := P) (w := w) (N := N) e hv hc
  have fin : ∀ {v : V} {r : Rs} {cs : Cells} {δ' : List AS} {σ' : L2.St} {S' H' : Hp}, post i r cs → Good P w (Wd.sym S H (adr (pre i)) cs) δ' σ' S' H' → ResOk [] S' v r → Q v H' := fun {v r cs δ' σ' S' H'} hp g' o => by
    obtain ⟨w1, w2, w3, w4⟩ := g'.wld
    exact k v r cs S' H' hp w1 g'.sub w2 (fun q u hq => g'.fok q (.inl ⟨u, hq⟩)) w3 w4 o
  refine h i S H hy _ S H g _ ⟨fun Ω' δ' σ' S' H' ⟨cs, a, b⟩ g' s' => ?_, fun v r Ω' δ' σ' S' H' ⟨cs, a, hr, b⟩ g' s' o => ?_, fun _ _ _ _ _ a _ _ => a.elim, fun _ _ _ _ _ a _ _ => a.elim⟩
  · subst a
    exact fin b g' .non
  · subst a
    refine fin b g' ?_
    cases r with
    | dat d => exact o
    | raw u => exact o
    | own j => exact absurd rfl (hr j)
/-- what a callee of such a promise leaves -/
theorem good_after {Ω : Wd} {δ : List AS} {σ : L2.St} {pr rest cs' : Cells} {S' H' : Hp} (eΩ : Ω = Wd.sym S0 H0 M (pr ++ rest)) (g : Good P w Ω δ σ S H) (h1 : Same S S') (h2 : Same S' H') (h3 : ∀ q o, H q = some o → q ∉ adr pr → H' q = some o ∧ S' q = S q) (h4 : ∀ q o, H q = some o → ∃ o', H' q = some o')
    (h5 : CsOk S' H' cs') (h6 : ∀ x ∈ cs', x.1 ∈ adr pr ∨ H x.1 = none) : Good P w (Wd.sym S0 H0 M (cs' ++ rest)) δ σ S' H' ∧ Step Ω δ σ S H (Wd.sym S0 H0 M (cs' ++ rest)) δ σ S' H' := by
  subst eΩ
  obtain ⟨w1, w2, w3, w4⟩ := g.wld
  have nd := w3.nd
  rw [adr, List.map_append] at nd
  have dis := (List.nodup_append.mp nd).2.2
  have inF : ∀ q, q ∈ adr pr → (Wd.sym S0 H0 M (pr ++ rest)).F q := fun q hq => .inr (by rw [adr, List.map_append]; exact List.mem_append_left _ hq)
  have inR : ∀ q, q ∈ adr rest → (Wd.sym S0 H0 M (pr ++ rest)).F q := fun q hq => .inr (by rw [adr, List.map_append]; exact List.mem_append_right _ hq)
  have hH0 : ∀ q, H q = none → H0 q = none := fun q hq => by
    cases e : H0 q with
    | none => rfl
    | some u =>
      obtain ⟨o, ho⟩ := g.fok q (.inl ⟨u, e⟩)
      rw [ho] at hq
      cases hq
  have nF : ∀ p, (∃ o, H p = some o) → ¬ (Wd.sym S0 H0 M (pr ++ rest)).F p → ¬ (Wd.sym S0 H0 M (cs' ++ rest)).F p := fun p ⟨o, hp⟩ q y => by
    rcases y with y | y
    · exact q (.inl y)
    · rw [adr, List.map_append] at y
      rcases List.mem_append.mp y with y | y
      · obtain ⟨x, hx, rfl⟩ := List.mem_map.mp y
        rcases h6 x hx with z | z
        · exact q (inF _ z)
        · rw [z] at hp
          cases hp
      · exact q (inR _ y)
  refine ⟨⟨h2, ⟨w1.trans h1, fun q u hq hm => ?_, ⟨fun x hx => ?_, ?_⟩, fun x hx => ?_⟩, fun q hq => ?_, g.len, fun i b e => ?_, g.dist⟩, h1, fun q u hq hT => ?_, h4⟩
  · obtain ⟨z1, z2⟩ := w2 q u hq hm
    have nq : q ∉ adr pr := fun z => by
      obtain ⟨x, hx, rfl⟩ := List.mem_map.mp z
      rcases w4 x (List.mem_append_left _ hx) with y | y
      · exact hm y
      · rw [y] at hq
        cases hq
    obtain ⟨y1, y2⟩ := h3 q u z1 nq
    exact ⟨y1, y2.trans z2⟩
  · rcases List.mem_append.mp hx with hx | hx
    · exact h5.at_ x hx
    · obtain ⟨z1, o, z2, z3⟩ := w3.at_ x (List.mem_append_right _ hx)
      obtain ⟨y1, y2⟩ := h3 x.1 o z2 fun z => dis _ z _ (List.mem_map_of_mem hx) rfl
      exact ⟨y2.trans z1, o, y1, x.2.mono _ _ _ h1 z3⟩
  · rw [adr, List.map_append]
    refine List.nodup_append.mpr ⟨h5.nd, (List.nodup_append.mp nd).2.1, fun a ha b hb e => ?_⟩
    subst e
    obtain ⟨x, hx, rfl⟩ := List.mem_map.mp ha
    rcases h6 x hx with z | z
    · exact dis _ z _ hb rfl
    · obtain ⟨y, hy, e⟩ := List.mem_map.mp hb
      obtain ⟨_, o, z2, _⟩ := w3.at_ y (List.mem_append_right _ hy)
      rw [e, z] at z2
      cases z2
  · rcases List.mem_append.mp hx with hx | hx
    · rcases h6 x hx with z | z
      · obtain ⟨y, hy, e⟩ := List.mem_map.mp z
        rw [← e]
        exact w4 y (List.mem_append_left _ hy)
      · exact .inr (hH0 _ z)
    · exact w4 x (List.mem_append_right _ hx)
  · rcases hq with hq | hq
    · obtain ⟨o, ho⟩ := g.fok q (.inl hq)
      exact h4 q o ho
    · rw [adr, List.map_append] at hq
      rcases List.mem_append.mp hq with hq | hq
      · obtain ⟨x, hx, rfl⟩ := List.mem_map.mp hq
        obtain ⟨_, o, z, _⟩ := h5.at_ x hx
        exact ⟨o, z⟩
      · obtain ⟨o, ho⟩ := g.fok q (inR q hq)
        exact h4 q o ho
  · have z := g.slot i b e
    cases b with
    | un => trivial
    | raw v => exact z
    | dat d => obtain ⟨v, z1, z2⟩ := z; exact ⟨v, z1, z2.mono h1⟩
    | own ds =>
      obtain ⟨p, xs, q1, q2, q3, q4, q5⟩ := z
      obtain ⟨y1, y2⟩ := h3 p _ q4 fun z => q2 (inF p z)
      exact ⟨p, xs, q1, nF p ⟨_, q4⟩ q2, y2.trans q3, y1, q5.mono h1⟩
    | dic ds =>
      obtain ⟨p, xs, q1, q2, q3, q4, q5⟩ := z
      obtain ⟨y1, y2⟩ := h3 p _ q4 fun z => q2 (inF p z)
      exact ⟨p, xs, q1, nF p ⟨_, q4⟩ q2, y2.trans q3, y1, EntOk.mono q5 h1⟩
  · obtain ⟨y1, y2⟩ := h3 q u hq fun z => hT (.inl (inF q z))
    refine ⟨y1, y2, fun t => ?_⟩
    rcases t with t | t
    · exact nF q ⟨u, hq⟩ (fun z => hT (.inl z)) t
    · exact hT (.inr t)
theorem pairedG {σ : L2.St} {vs : List V} : ∀ {rs : List Rs} {vs : List V}, (∀ r ∈ rs, ∀ i, r ≠ .own i) → Paired (ResOk σ S) vs rs → Paired (ResOk [] S) vs rs
  | [], _, _, .nil => .nil
  | r :: rs, _, hn, .cons h t => .cons (by
      cases r with
      | dat d => exact h
      | raw u => exact h
      | own i => exact absurd rfl (hn _ List.mem_cons_self i)) (pairedG (vs := vs) (fun q hq => hn q (List.mem_cons_of_mem _ hq)) t)
end
section
variable {P : Program} {w : World} {K : PySem.W.Frag} {Ω : Wd} {δ : List AS} {R : KR} {ta te : TE}
/-- a call of a def with such a promise -/
theorem ee_callG {ι : Type} {args : ι → List Rs} {hyp : ι → Hp → Hp → Prop} {pre : ι → Cells} {post : ι → Rs → Cells → Prop} {ta : TA} {E : XK} (h : EA P w ta Ω δ fun rs Ω1 δ1 => ∃ i S0 H0 M rest, Ω1 = Wd.sym S0 H0 M (pre i ++ rest) ∧ rs = args i ∧ (∀ r ∈ args i, ∀ j, r ≠ .own j) ∧ (∀ S H, Same S H → Ω1.W S H → hyp i S H) ∧
    ∀ r cs, (∀ j, r ≠ .own j) → post i r cs → R r (Wd.sym S0 H0 M (cs ++ rest)) δ1) (hr : ∀ i r cs, post i r cs → ∀ j, r ≠ .own j) : EE P w (tCall (spG args hyp pre post) [] E ta) Ω δ R := fun σ S H g Q q =>
  h σ S H g _ fun vs rs Ω1 δ1 S1 H1 h1 g1 s1 o1 => by
    obtain ⟨i, S0, H0, M, rest, eΩ, rfl, hn, hy, k⟩ := h1
    show spG args hyp pre post (vs ++ []) H1 Q E
    rw [List.append_nil]
    have hc : CsOk S1 H1 (pre i) := by
      have z := g1.wld
      rw [eΩ] at z
      exact z.2.2.1.left
    refine ⟨i, S1, g1.sub, pairedG (vs := vs) hn o1, hy S1 H1 g1.sub g1.wld, hc, fun v r cs S' H' hp e1 e2 e3 e4 e5 e6 o => ?_⟩
    obtain ⟨g2, s2⟩ := good_after eΩ g1 e1 e2 e3 e4 e5 e6
    refine q v r _ δ1 S' H' (k r cs (hr i r cs hp) hp) g2 (s1.trans s2) ?_
    cases r with
    | dat d => exact o
    | raw u => exact o
    | own j => exact absurd rfl (hr i _ cs hp j)
theorem ee_methG {ι : Type} {C : Addr} {m : Str} {args : ι → List Rs} {hyp : ι → Hp → Hp → Prop} {pre : ι → Cells} {post : ι → Rs → Cells → Prop} {t : TA} {E : XK}
    (h : EE P w ta Ω δ fun r Ω1 δ1 => ∃ a, r = .raw (.ref a) ∧ (∀ S H, Same S H → Ω1.W S H → ∃ dx fs, H a = some (.ins C dx fs) ∧ fs.lookup m = none) ∧ EA P w t Ω1 δ1 fun rs Ω2 δ2 => ∃ i S0 H0 M rest, Ω2 = Wd.sym S0 H0 M (pre i ++ rest) ∧ .raw (.ref a) :: rs = args i ∧ (∀ r ∈ args i, ∀ j, r ≠ .own j) ∧
      (∀ S H, Same S H → Ω2.W S H → hyp i S H) ∧ ∀ r cs, (∀ j, r ≠ .own j) → post i r cs → R r (Wd.sym S0 H0 M (cs ++ rest)) δ2) (hr : ∀ i r cs, post i r cs → ∀ j, r ≠ .own j) : EE P w (tMeth C m (spG args hyp pre post) [] E ta t) Ω δ R := fun σ S H g Q q =>
  h σ S H g _ fun x r0 Ω0 δ0 Sa Ha h0 g0 s0 o0 => by
    obtain ⟨a, rfl, hW, h0⟩ := h0
    obtain ⟨dx, fs, hA, hL⟩ := hW Sa Ha g0.sub g0.wld
    cases (show x = .ref a from o0)
    refine ⟨a, dx, fs, rfl, hA, hL, ?_⟩
    refine h0 σ Sa Ha g0 _ fun vs rs Ω1 δ1 S1 H1 h1 g1 s1 o1 => ?_
    obtain ⟨i, S0, H0, M, rest, eΩ, ea, hn, hy, k⟩ := h1
    show spG args hyp pre post (.ref a :: (vs ++ [])) H1 Q E
    rw [List.append_nil]
    have hc : CsOk S1 H1 (pre i) := by
      have z := g1.wld
      rw [eΩ] at z
      exact z.2.2.1.left
    have hp0 : Paired (ResOk σ S1) (.ref a :: vs) (args i) := by
      rw [← ea]
      exact .cons rfl o1
    refine ⟨i, S1, g1.sub, pairedG (vs := vs) hn hp0, hy S1 H1 g1.sub g1.wld, hc, fun v r cs S' H' hp e1 e2 e3 e4 e5 e6 o => ?_⟩
    obtain ⟨g2, s2⟩ := good_after eΩ g1 e1 e2 e3 e4 e5 e6
    refine q v r _ δ1 S' H' (k r cs (hr i r cs hp) hp) g2 (s0.trans (s1.trans s2)) ?_
    cases r with
    | dat d => exact o
    | raw u => exact o
    | own j => exact absurd rfl (hr i _ cs hp j)
end
end D
set_option Elab.async false
set_option linter.all false
set_option maxRecDepth 100000
set_option maxHeartbeats 4000000
set_option autoImplicit false
/-! Rules over cells. -/
namespace D
open PySem PySem.Spec PyProof.Rows L2
/-- at a stands what c says -/
def HasAt (S H : Hp) (a : Addr) (c : Cell) : Prop := ∃ o, H a = some o ∧ c.ok S o
def Has (Ω : Wd) (a : Addr) (c : Cell) : Prop := ∀ S H, Same S H → Ω.W S H → HasAt S H a c
section
variable {P : Program} {w : World} {K : PySem.W.Frag} {S0 H0 : Hp} {M : List Addr} {cs : Cells} {Ω : Wd} {δ : List AS} {R : KR} {RN : List PyData → Wd → List AS → Prop} {ta tb te td ty tv : TE} {a : Addr} {n : Nat} {c : Cell} {p : Po}
theorem has_cell (hn : cs[n]? = some (a, c)) : Has (Wd.sym S0 H0 M cs) a c := fun S H _ h => (cell_at h.2.2.1 hn).2
theorem has_frm {S H : Hp} (h : HasAt S H a c) : Has (Wd.sym S H [] cs) a c := fun S' H' _ hw => by
  obtain ⟨o, h1, h2⟩ := h
  exact ⟨o, (hw.2.1 a o h1 (by simp)).1, c.mono _ _ _ hw.1 h2⟩
theorem find_lookup {vs : List (Str × V)} {f : Str} : ∀ {j : Nat}, (vs.map (·.1)).findIdx? (fun g => decide (g = f)) = some j → vs.lookup f = (vs[j]?).map (·.2) := by
  induction vs with
  | nil => intro j h; simp at h
  | cons v vs ih =>
    intro j h
    obtain ⟨g, x⟩ := v
    rw [List.map_cons, List.findIdx?_cons] at h
    by_cases e : g = f
    · rw [if_pos (by simpa using e)] at h
      cases h
      subst e
      rw [List.lookup_cons_self]
      rfl
    · rw [if_neg (by simpa using e)] at h
      obtain ⟨k, hk, rfl⟩ := Option.map_eq_some_iff.mp h
      have hb : (f == g) = false := beq_eq_false_iff_ne.mpr fun z => e z.symm
      rw [List.lookup_cons, hb]
      exact ih hk
theorem find_none {vs : List (Str × V)} {f : Str} (h : (vs.map (·.1)).findIdx? (fun g => decide (g = f)) = none) : vs.lookup f = none := by
  induction vs with
  | nil => rfl
  | cons v vs ih =>
    obtain ⟨g, x⟩ := v
    rw [List.map_cons, List.findIdx?_cons] at h
    by_cases e : g = f
    · rw [if_pos (by simpa using e)] at h
      cases h
    · rw [if_neg (by simpa using e)] at h
      have hb : (f == g) = false := beq_eq_false_iff_ne.mpr fun z => e z.symm
      rw [List.lookup_cons, hb]
      exact ih (by simpa using h)
theorem paired_at {α β : Type} {F : α → β → Prop} : ∀ {xs : List α} {ys : List β}, Paired F xs ys → ∀ {j : Nat} {y : β}, ys[j]? = some y → ∃ x, xs[j]? = some x ∧ F x y
  | _, _, .nil, j, y, h => by simp at h
  | _, _, .cons r t, 0, y, h => by
    simp at h
    subst h
    exact ⟨_, rfl, r⟩
  | _, _, .cons r t, j + 1, y, h => by
    obtain ⟨x, h1, h2⟩ := paired_at t (j := j) (y := y) (by simpa using h)
    exact ⟨x, by simpa using h1, h2⟩
theorem paired_set {α β : Type} {F : α → β → Prop} {x : α} {y : β} (r : F x y) : ∀ {xs : List α} {ys : List β} (j : Nat), Paired F xs ys → Paired F (xs.set j x) (ys.set j y)
  | _, _, _, .nil => .nil
  | _, _, 0, .cons _ t => .cons r t
  | _, _, j + 1, .cons q t => .cons q (paired_set r j t)
/-- a field -/
theorem ee_f {f : Str} {ns : List Str} {j : Nat} (hj : ns.findIdx? (fun g => decide (g = f)) = some j)
    (h : EE P w te Ω δ fun r Ω1 δ1 => ∃ a C rs r', r = .raw (.ref a) ∧ Has Ω1 a (.ins C ns rs) ∧ Cls K C ∧ NoAttr K C f ∧ rs[j]? = some r' ∧ (∀ i, r' ≠ .own i) ∧ R r' Ω1 δ1) : EE P w (tFld K te f) Ω δ R :=
  ee_fld (h.imp fun r Ω1 δ1 ⟨a, C, rs, r', e1, hs, hc, hn, hr, ho, k⟩ => ⟨a, C, r', e1, hc, hn, ho, fun S H e hw => by
    obtain ⟨o, h1, dx, vs, rfl, h3, h4⟩ := hs S H e hw
    obtain ⟨x, h5, h6⟩ := paired_at h4 hr
    refine ⟨dx, vs, x, h1, ?_, h6⟩
    rw [find_lookup (by rw [h3]; exact hj), ← List.getElem?_map]
    exact h5, k⟩)
theorem mth_of {C : Addr} {ns : List Str} {rs : List Rs} {m : Str} (hs : Has Ω a (.ins C ns rs)) (hm : ns.findIdx? (fun g => decide (g = m)) = none) : ∀ S H, Same S H → Ω.W S H → ∃ dx fs, H a = some (.ins C dx fs) ∧ fs.lookup m = none := fun S H e hw => by
  obtain ⟨o, h1, dx, vs, rfl, h3, h4⟩ := hs S H e hw
  exact ⟨dx, vs, h1, find_none (by rw [h3]; exact hm)⟩
/-- xs[i], xs a list that stands -/
theorem o2_ixH {ds : List PyData} {i : Int} {b : Nat} {d : PyData} (hs : Has Ω a (.lst ds)) (e : i = (b : Int)) (h : ds[b]? = some d) (k : R (.dat d) Ω δ) : O2 P w (rIxL K) (.raw (.ref a)) (.dat (.int i)) Ω δ R := fun σ S H g x y hx hy Q q => by
  rw [Dq.int_inv hy]
  cases (show x = .ref a from hx)
  obtain ⟨o, h1, xs, rfl, h2⟩ := hs S H g.sub g.wld
  obtain ⟨v, h3, h4⟩ := h2.get h
  exact ⟨a, xs, i, v, rfl, rfl, SqL.of h1, atI_of e h3, q _ _ Ω δ S H k g Step.refl h4⟩
theorem cb_lenH {ds : List PyData} (hs : Has Ω a (.lst ds)) (k : R (.dat (.int (ds.length : Int))) Ω δ) : CB P w (rLen2 K) [.raw (.ref a)] Ω δ R := fun σ S H g vs o Q q => by
  obtain ⟨v, rfl, o'⟩ := one_of o
  cases (show v = .ref a from o')
  obtain ⟨u, h1, xs, rfl, h2⟩ := hs S H g.sub g.wld
  refine ⟨a, xs, rfl, .inl (SqL.of h1), ?_⟩
  rw [h2.length]
  exact q _ _ Ω δ S H k g Step.refl (.int _)
theorem cn_listH {ds : List PyData} (hs : Has Ω a (.lst ds)) (k : RN ds Ω δ) : CN P w (rListOf K) [.raw (.ref a)] Ω δ RN := fun σ S H g vs o Q q => by
  obtain ⟨v, rfl, o'⟩ := one_of o
  cases (show v = .ref a from o')
  obtain ⟨u, h1, xs, rfl, h2⟩ := hs S H g.sub g.wld
  exact ⟨a, xs, rfl, .inl (SqL.of h1), en_lay q g h2 k⟩
/-! ### dicts -/
def dkGet (kvs : List (Int × PyData)) (k : Int) : Option PyData := (kvs.find? fun e => decide (e.1 = k)).map (·.2)
def dkPut (kvs : List (Int × PyData)) (k : Int) (d : PyData) : List (Int × PyData) := if (kvs.any fun e => decide (e.1 = k)) = true then kvs.map (fun e => if e.1 = k then (e.1, d) else e) else kvs ++ [(k, d)]
theorem dk_val {S : Hp} {es : List (Key × V)} {kvs : List (Int × PyData)} (r : DkOk S es kvs) (k : Int) : RelD S (valV es (.inl k)) (dkGet kvs k) := by
  induction r with
  | nil => exact True.intro
  | @cons p q ps qs h t ih =>
    obtain ⟨h1, h2⟩ := h
    by_cases e : q.1 = k
    · have e' : p.1 = Sum.inl k := by rw [h1, e]
      have b : dkGet (q :: qs) k = some q.2 := by simp [dkGet, List.find?_cons, e]
      rw [valV_pos e', b]; exact h2
    · have e' : ¬ p.1 = Sum.inl k := fun z => e (Sum.inl.inj (h1.symm.trans z))
      have b : dkGet (q :: qs) k = dkGet qs k := by simp [dkGet, List.find?_cons, e]
      rw [valV_neg e', b]; exact ih
theorem dkGet_any (k : Int) : ∀ kvs : List (Int × PyData), (kvs.any fun e => decide (e.1 = k)) = (dkGet kvs k).isSome
  | [] => rfl
  | p :: r => by
    rw [List.any_cons]
    by_cases e : p.1 = k
    · have a : dkGet (p :: r) k = some p.2 := by simp [dkGet, List.find?_cons, e]
      rw [a]
      simp [e]
    · have a : dkGet (p :: r) k = dkGet r k := by simp [dkGet, List.find?_cons, e]
      rw [a, decide_eq_false e, Bool.false_or]
      exact dkGet_any k r
theorem dk_put {S : Hp} {es : List (Key × V)} {kvs : List (Int × PyData)} (r : DkOk S es kvs) {k : Int} {v : V} {d : PyData} (hv : Dq S v d) : DkOk S (putK es (.inl k) v) (dkPut kvs k d) := by
  have e : (es.any fun e => decide (e.1 = Sum.inl k)) = (kvs.any fun e => decide (e.1 = k)) := by
    rw [valV_any, dkGet_any, (dk_val r k).isSome]
  unfold putK dkPut
  rw [e]
  by_cases q : (kvs.any fun e => decide (e.1 = k)) = true
  · rw [if_pos q, if_pos q]
    clear e q
    induction r with
    | nil => exact .nil
    | @cons p q ps qs h t ih =>
      rw [List.map_cons, List.map_cons]
      refine .cons ?_ ih
      obtain ⟨h1, h2⟩ := h
      by_cases e : q.1 = k
      · rw [if_pos e, if_pos (by rw [h1, e])]; exact ⟨h1, hv⟩
      · rw [if_neg e, if_neg (fun z => e (Sum.inl.inj (h1.symm.trans z)))]; exact ⟨h1, h2⟩
  · rw [if_neg q, if_neg q]; exact Paired.snoc r ⟨rfl, hv⟩
theorem ee_dget (h : EE P w td Ω δ fun r Ω1 δ1 => ∃ a, r = .raw (.ref a) ∧ EE P w ty Ω1 δ1 fun r2 Ω2 δ2 => ∃ k, ∃ kvs, ∃ d, r2 = .dat (.int k) ∧ Has Ω2 a (.dk kvs) ∧ dkGet kvs k = some d ∧ R (.dat d) Ω2 δ2) : EE P w (tDGet td ty) Ω δ R := fun σ S H g Q q =>
  h σ S H g _ fun x r Ω1 δ1 S1 H1 h1 g1 s1 o1 => by
    obtain ⟨a, rfl, h1⟩ := h1
    cases (show x = .ref a from o1)
    refine h1 σ S1 H1 g1 _ fun y r2 Ω2 δ2 S2 H2 h2 g2 s2 o2 => ?_
    obtain ⟨k, kvs, d, rfl, hs, hd, z⟩ := h2
    rw [Dq.int_inv o2]
    obtain ⟨o, e1, es, rfl, e2⟩ := hs S2 H2 g2.sub g2.wld
    have rel := dk_val e2 k
    rw [hd] at rel
    obtain ⟨v, e3, e4⟩ := rel.some
    exact ⟨a, v, rfl, by rw [← e3]; exact DGet.k (k := Sum.inl k) e1, q v _ Ω2 δ2 S2 H2 z g2 (s1.trans s2) e4⟩
theorem ee_din (h : EE P w ty Ω δ fun r2 Ω1 δ1 => EE P w td Ω1 δ1 fun r Ω2 δ2 => ∃ a, ∃ k, ∃ kvs, r = .raw (.ref a) ∧ r2 = .dat (.int k) ∧ Has Ω2 a (.dk kvs) ∧ R (.dat (.bool (dkGet kvs k).isSome)) Ω2 δ2) : EE P w (tDIn ty td) Ω δ R := fun σ S H g Q q =>
  h σ S H g _ fun y r2 Ω1 δ1 S1 H1 h1 g1 s1 o1 => h1 σ S1 H1 g1 _ fun x r Ω2 δ2 S2 H2 h2 g2 s2 o2 => by
    obtain ⟨a, k, kvs, rfl, rfl, hs, z⟩ := h2
    cases (show x = .ref a from o2)
    rw [Dq.int_inv o1]
    obtain ⟨o, e1, es, rfl, e2⟩ := hs S2 H2 g2.sub g2.wld
    refine ⟨a, _, rfl, DGet.k (k := Sum.inl k) e1, ?_⟩
    rw [(dk_val e2 k).isSome]
    exact q _ _ Ω2 δ2 S2 H2 z g2 (s1.trans s2) (.bl _)
theorem ee_dnotin (h : EE P w ty Ω δ fun r2 Ω1 δ1 => EE P w td Ω1 δ1 fun r Ω2 δ2 => ∃ a, ∃ k, ∃ kvs, r = .raw (.ref a) ∧ r2 = .dat (.int k) ∧ Has Ω2 a (.dk kvs) ∧ R (.dat (.bool (!(dkGet kvs k).isSome))) Ω2 δ2) : EE P w (tDNotIn ty td) Ω δ R := fun σ S H g Q q =>
  h σ S H g _ fun y r2 Ω1 δ1 S1 H1 h1 g1 s1 o1 => h1 σ S1 H1 g1 _ fun x r Ω2 δ2 S2 H2 h2 g2 s2 o2 => by
    obtain ⟨a, k, kvs, rfl, rfl, hs, z⟩ := h2
    cases (show x = .ref a from o2)
    rw [Dq.int_inv o1]
    obtain ⟨o, e1, es, rfl, e2⟩ := hs S2 H2 g2.sub g2.wld
    refine ⟨a, _, rfl, DGet.k (k := Sum.inl k) e1, ?_⟩
    rw [(dk_val e2 k).isSome]
    exact q _ _ Ω2 δ2 S2 H2 z g2 (s1.trans s2) (.bl _)
/-- a dict by data keys: a slot's own, or one that stands -/
def DicOf (P : Program) (w : World) (Ω : Wd) (δ : List AS) (kvs : List (NK × PyData)) : Rs → Prop
  | .own i => δ[i]? = some (.dic kvs)
  | .raw (.ref a) => Has Ω a (.dic P w a kvs)
  | _ => False
theorem dic_at {σ : L2.St} {S H : Hp} {v : V} {r : Rs} {kvs : List (NK × PyData)} (g : Good P w Ω δ σ S H) (h : ResOk σ S v r) (e : DicOf P w Ω δ kvs r) : ∃ a es, v = .ref a ∧ H a = some (dN P w a es) ∧ EntOk S es kvs := by
  cases r with
  | dat d => exact e.elim
  | own i =>
    obtain ⟨a, es, h1, _, _, h4, h5⟩ := slot_at g (show δ[i]? = some (.dic kvs) from e)
    rw [show σ[i]? = some (some v) from h] at h1
    cases h1
    exact ⟨a, es, rfl, h4, h5⟩
  | raw u =>
    cases (show v = u from h)
    cases v with
    | ref a =>
      obtain ⟨o, e1, es, rfl, e2⟩ := (show Has Ω a (.dic P w a kvs) from e) S H g.sub g.wld
      exact ⟨a, es, rfl, e1, e2⟩
    | _ => exact e.elim
theorem key_at {S : Hp} {v : V} {ks : List NK} (h : Dq S v (.tuple (NestedKey.datas ks))) (hd : (NestedKey.tup ks).depth ≤ 8) : ∃ b, v = .ref b ∧ KAt S b (.tup ks) := by
  obtain ⟨b, xs, rfl, h1, h2⟩ := Dq.tup_inv h
  exact ⟨b, rfl, by simp only [NestedKey.data]; exact .tup h1 h2, hd⟩
theorem ee_nget (h : EE P w td Ω δ fun r Ω1 δ1 => EE P w ty Ω1 δ1 fun r2 Ω2 δ2 => ∃ kvs ks d, DicOf P w Ω2 δ2 kvs r ∧ r2 = .dat (.tuple (NestedKey.datas ks)) ∧ (NestedKey.tup ks).depth ≤ 8 ∧ lookD kvs (.tup ks) = some d ∧ R (.dat d) Ω2 δ2) : EE P w (tNGet P w td ty) Ω δ R := fun σ S H g Q q =>
  h σ S H g _ fun x r Ω1 δ1 S1 H1 h1 g1 s1 o1 => h1 σ S1 H1 g1 _ fun y r2 Ω2 δ2 S2 H2 h2 g2 s2 o2 => by
    obtain ⟨kvs, ks, d, hd, rfl, hk, hl, z⟩ := h2
    obtain ⟨a, es, rfl, e1, e2⟩ := dic_at g2 (o1.mono s2.same) hd
    obtain ⟨b, rfl, kb⟩ := key_at o2 hk
    have rel := e2.val (.tup ks)
    rw [hl] at rel
    obtain ⟨v, e3, e4⟩ := rel.some
    exact ⟨a, es, b, .tup ks, v, rfl, rfl, e2.nat g2.sub e1, ⟨kb.1.mono g2.sub, kb.2⟩, e3, q v _ Ω2 δ2 S2 H2 z g2 (s1.trans s2) e4⟩
theorem ee_nin {neg : Bool} (h : EE P w ty Ω δ fun r2 Ω1 δ1 => EE P w td Ω1 δ1 fun r Ω2 δ2 => ∃ kvs ks, DicOf P w Ω2 δ2 kvs r ∧ r2 = .dat (.tuple (NestedKey.datas ks)) ∧ (NestedKey.tup ks).depth ≤ 8 ∧ R (.dat (.bool (if neg then !(lookD kvs (.tup ks)).isSome else (lookD kvs (.tup ks)).isSome))) Ω2 δ2) : EE P w (tNIn P w neg ty td) Ω δ R := fun σ S H g Q q =>
  h σ S H g _ fun y r2 Ω1 δ1 S1 H1 h1 g1 s1 o1 => h1 σ S1 H1 g1 _ fun x r Ω2 δ2 S2 H2 h2 g2 s2 o2 => by
    obtain ⟨kvs, ks, hd, rfl, hk, z⟩ := h2
    obtain ⟨a, es, rfl, e1, e2⟩ := dic_at g2 o2 hd
    obtain ⟨b, rfl, kb⟩ := key_at (o1.mono s2.same) hk
    refine ⟨a, es, b, .tup ks, rfl, rfl, e2.nat g2.sub e1, ⟨kb.1.mono g2.sub, kb.2⟩, ?_⟩
    rw [(e2.val (.tup ks)).isSome]
    exact q _ _ Ω2 δ2 S2 H2 z g2 (s1.trans s2) (.bl _)
theorem cb_lenN {kvs : List (NK × PyData)} {r : Rs} (hd : DicOf P w Ω δ kvs r) (k : R (.dat (.int (kvs.length : Int))) Ω δ) : CB P w (rNLen P w) [r] Ω δ R := fun σ S H g vs o Q q => by
  obtain ⟨v, rfl, o'⟩ := one_of o
  obtain ⟨a, es, rfl, e1, e2⟩ := dic_at g o' hd
  refine ⟨a, es, rfl, e2.nat g.sub e1, ?_⟩
  rw [Paired.length e2]
  exact q _ _ Ω δ S H k g Step.refl (.int _)
theorem putE_at {S : Hp} {es : List Ent} {kvs : List (NK × PyData)} (e : EntOk S es kvs) (hl : kvs.length < sizeLine) : es.length < sizeLine := by
  rw [Paired.length e]
  exact hl
/-- d[k] = e, d a slot's own -/
theorem se_nputO {i : Nat} (h : EE P w tv Ω δ fun r Ω1 δ1 => EE P w td Ω1 δ1 fun r1 Ω2 δ2 => EE P w ty Ω2 δ2 fun r2 Ω3 δ3 => ∃ d kvs ks, r = .dat d ∧ r1 = .own i ∧ δ3[i]? = some (.dic kvs) ∧ r2 = .dat (.tuple (NestedKey.datas ks)) ∧ (NestedKey.tup ks).depth ≤ 8 ∧ kvs.length < sizeLine ∧ p.nx Ω3 (δ3.set i (.dic (putD kvs (.tup ks) d)))) : SE P w (sNPut P w td ty tv) Ω δ p := fun σ S H g D q =>
  h σ S H g _ fun v r Ω1 δ1 S1 H1 h1 g1 s1 o1 => h1 σ S1 H1 g1 _ fun x r1 Ω2 δ2 S2 H2 h2 g2 s2 o2 => h2 σ S2 H2 g2 _ fun y r2 Ω3 δ3 S3 H3 h3 g3 s3 o3 => by
    obtain ⟨d, kvs, ks, rfl, rfl, hi, rfl, hk, hl, z⟩ := h3
    obtain ⟨a, es, h1, hF, hS, h4, h5⟩ := slot_at g3 hi
    have hs := join_some h1
    rw [show σ[i]? = some (some x) from o2] at hs
    cases hs
    obtain ⟨b, rfl, kb⟩ := key_at o3 hk
    have hv : Dq S3 v d := (Dq.mono s2.same o1).mono s3.same
    refine ⟨a, es, b, .tup ks, rfl, rfl, h5.nat g3.sub h4, ⟨kb.1.mono g3.sub, kb.2⟩, putE_at h5 hl, ?_⟩
    exact q.nx _ _ _ _ _ z (g3.wrote hi o2 rfl hF hS ⟨a, _, rfl, hF, hS, upd_same, h5.put kb hv⟩) ((s1.trans (s2.trans s3)).trans (Step.wrote hi o2 rfl))
/-- d[k] = e, d a cell -/
theorem se_nputC (h : EE P w tv Ω δ fun r Ω1 δ1 => EE P w td Ω1 δ1 fun r1 Ω2 δ2 => EE P w ty Ω2 δ2 fun r2 Ω3 δ3 => ∃ S0 H0 M cs n a d kvs ks, Ω3 = Wd.sym S0 H0 M cs ∧ r = .dat d ∧ r1 = .raw (.ref a) ∧ cs[n]? = some (a, .dic P w a kvs) ∧ r2 = .dat (.tuple (NestedKey.datas ks)) ∧ (NestedKey.tup ks).depth ≤ 8 ∧ kvs.length < sizeLine ∧ p.nx (Wd.sym S0 H0 M (cs.set n (a, .dic P w a (putD kvs (.tup ks) d)))) δ3) : SE P w (sNPut P w td ty tv) Ω δ p := fun σ S H g D q =>
  h σ S H g _ fun v r Ω1 δ1 S1 H1 h1 g1 s1 o1 => h1 σ S1 H1 g1 _ fun x r1 Ω2 δ2 S2 H2 h2 g2 s2 o2 => h2 σ S2 H2 g2 _ fun y r2 Ω3 δ3 S3 H3 h3 g3 s3 o3 => by
    obtain ⟨S0, H0, M, cs, n, a, d, kvs, ks, rfl, rfl, rfl, hn, rfl, hk, hl, z⟩ := h3
    cases (show x = .ref a from o2)
    obtain ⟨hS, o, e1, es, rfl, e2⟩ := cell_at g3.wld.2.2.1 hn
    obtain ⟨b, rfl, kb⟩ := key_at o3 hk
    have hv : Dq S3 v d := (Dq.mono s2.same o1).mono s3.same
    obtain ⟨g4, s4⟩ := g3.cell (c' := .dic P w a (putD kvs (.tup ks) d)) (o := dN P w a (putE es (.tup ks) b v)) hn ⟨_, rfl, e2.put kb hv⟩
    exact ⟨a, es, b, .tup ks, rfl, rfl, e2.nat g3.sub e1, ⟨kb.1.mono g3.sub, kb.2⟩, putE_at e2 hl, q.nx _ _ _ _ _ z g4 ((s1.trans (s2.trans s3)).trans s4)⟩
/-- d[k] = e, int keys, d a cell -/
theorem se_dputC (h : EE P w tv Ω δ fun r Ω1 δ1 => EE P w td Ω1 δ1 fun r1 Ω2 δ2 => EE P w ty Ω2 δ2 fun r2 Ω3 δ3 => ∃ S0 H0 M cs n a d kvs, ∃ k : Int, Ω3 = Wd.sym S0 H0 M cs ∧ r = .dat d ∧ r1 = .raw (.ref a) ∧ cs[n]? = some (a, .dk kvs) ∧ r2 = .dat (.int k) ∧ kvs.length < sizeLine ∧ p.nx (Wd.sym S0 H0 M (cs.set n (a, .dk (dkPut kvs k d)))) δ3) : SE P w (sDPut td ty tv) Ω δ p := fun σ S H g D q =>
  h σ S H g _ fun v r Ω1 δ1 S1 H1 h1 g1 s1 o1 => h1 σ S1 H1 g1 _ fun x r1 Ω2 δ2 S2 H2 h2 g2 s2 o2 => h2 σ S2 H2 g2 _ fun y r2 Ω3 δ3 S3 H3 h3 g3 s3 o3 => by
    obtain ⟨S0, H0, M, cs, n, a, d, kvs, k, rfl, rfl, rfl, hn, rfl, hl, z⟩ := h3
    cases (show x = .ref a from o2)
    rw [Dq.int_inv o3]
    obtain ⟨hS, o, e1, es, rfl, e2⟩ := cell_at g3.wld.2.2.1 hn
    have hv : Dq S3 v d := (Dq.mono s2.same o1).mono s3.same
    obtain ⟨g4, s4⟩ := g3.cell (c' := .dk (dkPut kvs k d)) (o := .dK (putK es (.inl k) v)) hn ⟨_, rfl, dk_put e2 hv⟩
    exact ⟨a, _, rfl, DPut.k (k := Sum.inl k) e1 (by rw [Paired.length e2]; exact hl), q.nx _ _ _ _ _ z g4 ((s1.trans (s2.trans s3)).trans s4)⟩
/-! ### lists that are cells -/
theorem se_appendC (h : EE P w ta Ω δ fun r Ω1 δ1 => ∃ a ds0, r = .raw (.ref a) ∧ Has Ω1 a (.lst ds0) ∧ EE P w te Ω1 δ1 fun r2 Ω2 δ2 => ∃ S0 H0 M cs n d ds, Ω2 = Wd.sym S0 H0 M cs ∧ r2 = .dat d ∧ cs[n]? = some (a, .lst ds) ∧ ds.length < sizeLine ∧ p.nx (Wd.sym S0 H0 M (cs.set n (a, .lst (ds ++ [d])))) δ2) :
    SE P w (tDrop (tBM K "list" rAppend ta (tCons te tNil))) Ω δ p := fun σ S H g D q =>
  h σ S H g _ fun x r Ω1 δ1 S1 H1 h1 g1 s1 o1 => by
    obtain ⟨a, ds0, rfl, hs, h1⟩ := h1
    cases (show x = .ref a from o1)
    obtain ⟨u, e1, xs0, rfl, _⟩ := hs S1 H1 g1.sub g1.wld
    refine ⟨.inl ⟨rfl, xs0, SqL.of e1⟩, ?_⟩
    refine h1 σ S1 H1 g1 _ fun y r2 Ω2 δ2 S2 H2 h2 g2 s2 o2 => ?_
    obtain ⟨S0, H0, M, cs, n, d, ds, rfl, rfl, hn, hl, z⟩ := h2
    obtain ⟨hS, o, e2, xs, rfl, e3⟩ := cell_at g2.wld.2.2.1 hn
    obtain ⟨g4, s4⟩ := g2.cell (c' := .lst (ds ++ [d])) (o := .lst (xs ++ [y])) hn ⟨_, rfl, e3.append (.cons o2 .nil)⟩
    exact ⟨a, xs, y, rfl, rfl, e2, by rw [e3.length]; exact hl, q.nx _ _ _ _ _ z g4 ((s1.trans s2).trans s4)⟩
/-! ### fields stored -/
theorem putF_old {f : Str} {x : V} : ∀ {vs : List (Str × V)} {j : Nat}, (vs.map (·.1)).findIdx? (fun g => decide (g = f)) = some j → (putF f x vs).map (·.1) = vs.map (·.1) ∧ (putF f x vs).map (·.2) = (vs.map (·.2)).set j x
  | [], j, h => by simp at h
  | (g, y) :: vs, j, h => by
    rw [List.map_cons, List.findIdx?_cons] at h
    rw [show putF f x ((g, y) :: vs) = (if g = f then (g, x) :: vs else (g, y) :: putF f x vs) from rfl]
    by_cases e : g = f
    · rw [if_pos (by simpa using e)] at h
      cases h
      rw [if_pos e]
      exact ⟨rfl, rfl⟩
    · rw [if_neg (by simpa using e)] at h
      obtain ⟨k, hk, rfl⟩ := Option.map_eq_some_iff.mp h
      obtain ⟨h1, h2⟩ := putF_old (x := x) hk
      rw [if_neg e]
      exact ⟨congrArg (g :: ·) h1, congrArg (y :: ·) h2⟩
theorem putF_new {f : Str} {x : V} : ∀ {vs : List (Str × V)}, (vs.map (·.1)).findIdx? (fun g => decide (g = f)) = none → (putF f x vs).map (·.1) = vs.map (·.1) ++ [f] ∧ (putF f x vs).map (·.2) = vs.map (·.2) ++ [x]
  | [], h => ⟨rfl, rfl⟩
  | (g, y) :: vs, h => by
    rw [List.map_cons, List.findIdx?_cons] at h
    rw [show putF f x ((g, y) :: vs) = (if g = f then (g, x) :: vs else (g, y) :: putF f x vs) from rfl]
    by_cases e : g = f
    · rw [if_pos (by simpa using e)] at h
      cases h
    · rw [if_neg (by simpa using e)] at h
      obtain ⟨h1, h2⟩ := putF_new (x := x) (vs := vs) (by simpa using h)
      rw [if_neg e]
      exact ⟨congrArg (g :: ·) h1, congrArg (y :: ·) h2⟩
/-- self.f = e, f new -/
theorem fld_new {σ : L2.St} {S H : Hp} {C : Addr} {ns : List Str} {rs : List Rs} {f : Str} {y : V} {r : Rs} (g : Good P w (Wd.sym S0 H0 M cs) δ σ S H) (hn : cs[n]? = some (a, .ins C ns rs)) (hf : ns.findIdx? (fun g => decide (g = f)) = none) (hl : ns.length < 100) (hr : ResOk [] S y r) :
    ∃ dx fs, H a = some (.ins C dx fs) ∧ fs.length < 1000 ∧ Good P w (Wd.sym S0 H0 M (cs.set n (a, .ins C (ns ++ [f]) (rs ++ [r])))) δ σ S (upd H a (.ins C dx (putF f y fs))) ∧ Step (Wd.sym S0 H0 M cs) δ σ S H (Wd.sym S0 H0 M (cs.set n (a, .ins C (ns ++ [f]) (rs ++ [r])))) δ σ S (upd H a (.ins C dx (putF f y fs))) := by
  obtain ⟨hS, o, e1, dx, vs, rfl, e2, e3⟩ := cell_at g.wld.2.2.1 hn
  obtain ⟨h1, h2⟩ := putF_new (x := y) (vs := vs) (by rw [e2]; exact hf)
  have hlen : vs.length = ns.length := by rw [← e2, List.length_map]
  have hc : (Cell.ins C (ns ++ [f]) (rs ++ [r])).ok S (.ins C dx (putF f y vs)) := ⟨dx, _, rfl, by rw [h1, e2], by rw [h2]; exact Paired.snoc e3 hr⟩
  obtain ⟨g4, s4⟩ := g.cell hn hc
  exact ⟨dx, vs, e1, by omega, g4, s4⟩
theorem se_fldC {f : Str} {ns : List Str} {C : Addr} (hc : Cls K C) (hna : NoAttr K C f) (hf : ns.findIdx? (fun g => decide (g = f)) = none) (hl : ns.length < 100)
    (h : EE P w tv Ω δ fun r Ω1 δ1 => (∀ i, r ≠ .own i) ∧ EE P w ta Ω1 δ1 fun r1 Ω2 δ2 => ∃ S0 H0 M cs n a rs, Ω2 = Wd.sym S0 H0 M cs ∧ r1 = .raw (.ref a) ∧ cs[n]? = some (a, .ins C ns rs) ∧ p.nx (Wd.sym S0 H0 M (cs.set n (a, .ins C (ns ++ [f]) (rs ++ [r])))) δ2) : SE P w (sFld K ta tv f) Ω δ p := fun σ S H g D q =>
  h σ S H g _ fun y r Ω1 δ1 S1 H1 h1 g1 s1 o1 => h1.2 σ S1 H1 g1 _ fun x r1 Ω2 δ2 S2 H2 h2 g2 s2 o2 => by
    obtain ⟨S0, H0, M, cs, n, a, rs, rfl, rfl, hn, z⟩ := h2
    cases (show x = .ref a from o2)
    have hr : ResOk [] S2 y r := by
      have o3 := o1.mono s2.same
      cases r with
      | dat d => exact o3
      | raw u => exact o3
      | own i => exact absurd rfl (h1.1 i)
    obtain ⟨dx, fs, e1, e2, g4, s4⟩ := fld_new g2 hn hf hl hr
    exact ⟨a, C, dx, fs, rfl, e1, hc, hna, e2, q.nx _ _ _ _ _ z g4 ((s1.trans s2).trans s4)⟩
/-- self.f = a new list, which becomes a cell -/
theorem se_fldN {f : Str} {ns : List Str} {C : Addr} {i : Nat} (hc : Cls K C) (hna : NoAttr K C f) (hf : ns.findIdx? (fun g => decide (g = f)) = none) (hl : ns.length < 100)
    (h : EN P w tv Ω δ fun ds Ω1 δ1 => ∃ S0 H0 M cs n a rs, Ω1 = Wd.sym S0 H0 M cs ∧ δ1[i]? = some (.raw (.ref a)) ∧ cs[n]? = some (a, .ins C ns rs) ∧ ∀ b, p.nx (Wd.sym S0 H0 M ((b, .lst ds) :: cs.set n (a, .ins C (ns ++ [f]) (rs ++ [.raw (.ref b)])))) δ1) : SE P w (sFld K (tVar i) tv f) Ω δ p := fun σ S H g D q =>
  h σ S H g _ fun b xs ds Ω1 δ1 S1 H1 h1 g1 s1 hb hb1 hbS hbT hd => by
    obtain ⟨S0, H0, M, cs, n, a, rs, rfl, hi, hn, z⟩ := h1
    have hs := join_some (slot_at g1 hi)
    refine ⟨.ref a, hs, ?_⟩
    obtain ⟨dx, fs, e1, e2, g4, s4⟩ := fld_new (r := .raw (.ref b)) (y := .ref b) g1 hn hf hl rfl
    have hab : b ≠ a := fun e => hbT (.inl (.inr (e ▸ List.mem_map_of_mem (List.mem_of_getElem? hn))))
    have hT4 : ¬ Tch (Wd.sym S0 H0 M (cs.set n (a, .ins C (ns ++ [f]) (rs ++ [.raw (.ref b)])))) δ1 σ b := (s4.keep b _ hb1 hbT).2.2
    exact ⟨a, C, dx, fs, rfl, e1, hc, hna, e2, q.nx _ _ _ _ _ (z b) (g4.cellNew ((upd_ne hab).trans hb1) hbS hT4 ⟨xs, rfl, hd⟩) ((s1.trans s4).cellNew hb)⟩
/-- self.f = {} -/
theorem se_fldD {f : Str} {ns : List Str} {C : Addr} {i : Nat} {cs : Cells} {rs : List Rs} (hc : Cls K C) (hna : NoAttr K C f) (hf : ns.findIdx? (fun g => decide (g = f)) = none) (hl : ns.length < 100)
    (hi : δ[i]? = some (.raw (.ref a))) (hn : cs[n]? = some (a, .ins C ns rs)) (z : ∀ b, p.nx (Wd.sym S0 H0 M ((b, .dk []) :: cs.set n (a, .ins C (ns ++ [f]) (rs ++ [.raw (.ref b)])))) δ) : SE P w (sFld K (tVar i) tDNewK f) (Wd.sym S0 H0 M cs) δ p := fun σ S H g D q b hb => by
  have g1 := g.new' (o := .dK []) hb
  have s1 : Step (Wd.sym S0 H0 M cs) δ σ S H (Wd.sym S0 H0 M cs) δ σ S (upd H b (.dK [])) := Step.new' hb
  have hbT := g.notTch hb
  have hbS := g.sub.free hb
  have hs := join_some (slot_at g1 hi)
  refine ⟨.ref a, hs, ?_⟩
  obtain ⟨dx, fs, e1, e2, g4, s4⟩ := fld_new (r := .raw (.ref b)) (y := .ref b) g1 hn hf hl rfl
  have hab : b ≠ a := fun e => hbT (.inl (.inr (e ▸ List.mem_map_of_mem (List.mem_of_getElem? hn))))
  have hT4 := (s4.keep b _ upd_same hbT).2.2
  exact ⟨a, C, dx, fs, rfl, e1, hc, hna, e2, q.nx _ _ _ _ _ (z b) (g4.cellNew ((upd_ne hab).trans upd_same) hbS hT4 ⟨[], rfl, .nil⟩) ((s1.trans s4).cellNew hb)⟩
theorem se_fldND {f : Str} {ns : List Str} {C : Addr} {i : Nat} {cs : Cells} {rs : List Rs} (hc : Cls K C) (hna : NoAttr K C f) (hf : ns.findIdx? (fun g => decide (g = f)) = none) (hl : ns.length < 100)
    (hi : δ[i]? = some (.raw (.ref a))) (hn : cs[n]? = some (a, .ins C ns rs)) (z : ∀ b, p.nx (Wd.sym S0 H0 M ((b, .dic P w b []) :: cs.set n (a, .ins C (ns ++ [f]) (rs ++ [.raw (.ref b)])))) δ) : SE P w (sFld K (tVar i) (tNNew P w) f) (Wd.sym S0 H0 M cs) δ p := fun σ S H g D q b hb => by
  have g1 := g.new' (o := dN P w b []) hb
  have s1 : Step (Wd.sym S0 H0 M cs) δ σ S H (Wd.sym S0 H0 M cs) δ σ S (upd H b (dN P w b [])) := Step.new' hb
  have hbT := g.notTch hb
  have hbS := g.sub.free hb
  have hs := join_some (slot_at g1 hi)
  refine ⟨.ref a, hs, ?_⟩
  obtain ⟨dx, fs, e1, e2, g4, s4⟩ := fld_new (r := .raw (.ref b)) (y := .ref b) g1 hn hf hl rfl
  have hab : b ≠ a := fun e => hbT (.inl (.inr (e ▸ List.mem_map_of_mem (List.mem_of_getElem? hn))))
  have hT4 := (s4.keep b _ upd_same hbT).2.2
  exact ⟨a, C, dx, fs, rfl, e1, hc, hna, e2, q.nx _ _ _ _ _ (z b) (g4.cellNew ((upd_ne hab).trans upd_same) hbS hT4 ⟨[], rfl, .nil⟩) ((s1.trans s4).cellNew hb)⟩
/-- x = {} into a slot -/
theorem se_setDic {i : Nat} (hi : i < δ.length) (k : p.nx Ω (δ.set i (.dic []))) : SE P w (tAsg (tNNew P w) (gName i)) Ω δ p := fun σ S H g D q b hb => by
  have g1 := g.new' (o := dN P w b []) hb
  have s1 : Step Ω δ σ S H Ω δ σ S (upd H b (dN P w b [])) := Step.new' hb
  have hbT := g.notTch hb
  exact q.nx _ _ _ _ _ k (g1.setO hi hbT ⟨b, _, rfl, fun z => hbT (.inl z), g.sub.free hb, upd_same, .nil⟩) (Step.setO' s1 g1 hi hb)
/-- the slots are as they were, the cells told otherwise -/
theorem se_perm {ts : TS} {cs' : Cells} (hp : cs.Perm cs') (h : SE P w ts (Wd.sym S0 H0 M cs') δ p) : SE P w ts (Wd.sym S0 H0 M cs) δ p := fun σ S H g D q => by
  obtain ⟨g1, s1⟩ := g.perm hp
  exact h σ S H g1 D (q.step s1)
/-! ### instances made -/
theorem ee_make {ι : Type} {C : Addr} {args : ι → List Rs} {hyp : ι → Hp → Hp → Prop} {pre : ι → Cells} {post : ι → Rs → Cells → Prop} {t : TA} {E : XK}
    (h : EA P w t Ω δ fun rs Ω1 δ1 => ∃ S0 H0 M cs, Ω1 = Wd.sym S0 H0 M cs ∧ ∀ x, ∃ i, .raw (.ref x) :: rs = args i ∧ (∀ r ∈ args i, ∀ j, r ≠ .own j) ∧ pre i = [(x, .ins C [] [])] ∧ (∀ S H, Same S H → Ω1.W S H → hyp i S H) ∧ (∀ S H S' H', Same S S' → Same H H' → hyp i S H → hyp i S' H') ∧
      ∀ r cs', post i r cs' → r = .dat .none ∧ R (.raw (.ref x)) (Wd.sym S0 H0 M (cs' ++ cs)) δ1) : EE P w (tMake C (spG args hyp pre post) [] E t) Ω δ R := fun σ S H g Q q =>
  h σ S H g _ fun vs rs Ω1 δ1 S1 H1 h1 g1 s1 o1 => fun x dx hx hdx hne => by
    obtain ⟨S0, H0, M, cs, rfl, k⟩ := h1
    obtain ⟨i, ea, hno, ep, hy, hm, k⟩ := k x
    have hdx1 : H1 dx = none := hdx
    have ga := g1.new (o := .own x) hdx
    have sa : Step (Wd.sym S0 H0 M cs) δ1 σ S1 H1 (Wd.sym S0 H0 M cs) δ1 σ (upd S1 dx (.own x)) (upd H1 dx (.own x)) := Step.new g1.sub hdx
    have hx2 : (upd H1 dx (.own x)) x = none := (upd_ne (Ne.symm hne)).trans hx
    have gb := ga.new' (o := .ins C dx []) hx2
    have sb : Step (Wd.sym S0 H0 M cs) δ1 σ (upd S1 dx (.own x)) (upd H1 dx (.own x)) (Wd.sym S0 H0 M cs) δ1 σ (upd S1 dx (.own x)) (upd (upd H1 dx (.own x)) x (.ins C dx [])) := Step.new' hx2
    have gc := gb.cellNew (a := x) (c := .ins C [] []) (o := .ins C dx []) upd_same (ga.sub.free hx2) (ga.notTch hx2) ⟨dx, [], rfl, rfl, .nil⟩
    have sc := ((s1.trans sa).trans sb).cellNew (a := x) (c := .ins C [] []) (s1.back hx)
    show spG args hyp pre post (.ref x :: (vs ++ [])) _ _ E
    rw [List.append_nil]
    have hp0 : Paired (ResOk σ (upd S1 dx (.own x))) (.ref x :: vs) (args i) := by
      rw [← ea]
      exact .cons rfl (resAll_mono o1 (Same.new (g1.sub.free hdx)))
    have hh : hyp i (upd S1 dx (.own x)) (upd (upd H1 dx (.own x)) x (.ins C dx [])) := hm _ _ _ _ (Same.new (g1.sub.free hdx)) ((Same.new hdx).trans (Same.new hx2)) (hy S1 H1 g1.sub g1.wld)
    have hc : CsOk (upd S1 dx (.own x)) (upd (upd H1 dx (.own x)) x (.ins C dx [])) (pre i) := by
      rw [ep]
      exact (show CsOk _ _ ([(x, .ins C [] [])] ++ cs) from gc.wld.2.2.1).left
    refine ⟨i, _, gc.sub, pairedG (vs := vs) hno hp0, hh, hc, fun v r cs' S' H' hp e1 e2 e3 e4 e5 e6 o => ?_⟩
    obtain ⟨rfl, kR⟩ := k r cs' hp
    cases o
    have eΩ : Wd.sym S0 H0 M ((x, .ins C [] []) :: cs) = Wd.sym S0 H0 M (pre i ++ cs) := by rw [ep]; rfl
    obtain ⟨g2, s2⟩ := good_after eΩ gc e1 e2 e3 e4 e5 e6
    exact ⟨rfl, q _ _ _ δ1 S' H' kR g2 (sc.trans s2) rfl⟩
/-- sorted(d), int keys -/
def rSortedDI : List V → Hp → VK → Prop := fun xs H Q => ∃ (a : Addr) (kvs : List (Key × V)) (ks : List Int), xs = [.ref a] ∧ Rd H a (.dK kvs) ∧ kvs.map (·.1) = ks.map Sum.inl ∧ ks.length < 64 ∧
    ∀ (ys : List Int) (p : Addr), ys.Perm ks → ys.Pairwise (· ≤ ·) → H p = none → Q (.ref p) (upd H p (.lst (ys.map V.int)))
theorem call_sortedDI' {X : Cx} (hc : X.calm = true) : CallR X (.builtin "sorted") rSortedDI := call_sortedDI hc
theorem cn_sortedDI {kvs : List (Int × PyData)} {ks : List Int} (hs : Has Ω a (.dk kvs)) (hk : kvs.map (·.1) = ks) (hl : kvs.length < 64) (hw : ks.Pairwise (· ≤ ·)) (k : RN (ks.map PyData.int) Ω δ) : CN P w rSortedDI [.raw (.ref a)] Ω δ RN := fun σ S H g vs o Q q => by
  obtain ⟨v, rfl, o'⟩ := one_of o
  cases (show v = .ref a from o')
  obtain ⟨u, h1, es, rfl, h2⟩ := hs S H g.sub g.wld
  have keys : ∀ {es : List (Key × V)} {kvs : List (Int × PyData)}, DkOk S es kvs → es.map (·.1) = (kvs.map (·.1)).map Sum.inl := by
    intro es kvs r
    induction r with
    | nil => rfl
    | cons h t ih => rw [List.map_cons, List.map_cons, List.map_cons, h.1, ih]
  refine ⟨a, es, ks, rfl, .inl h1, by rw [keys h2, hk], by rw [← hk, List.length_map]; exact hl, fun ys p hp hs2 hn => ?_⟩
  have e : ys = ks := List.Perm.eq_of_pairwise (le := fun a b => a ≤ b) (fun _ _ _ _ h1 h2 => Int.le_antisymm h1 h2) hs2 hw hp
  subst e
  exact en_lay q g (DqAll.ofInts _) k p hn
end
end D
set_option Elab.async false
set_option linter.all false
set_option maxRecDepth 100000
set_option maxHeartbeats 4000000
set_option autoImplicit false
/-! Methods and classes that others call. -/
namespace D
open PySem PySem.Spec PyProof.Rows L2
/-- a method that others call -/
structure CalM (P : Program) (w : World) (K : PySem.W.Frag) (mg : Str → Option Value) (base : Heap) (k : Nat) (C : Addr) (m : Str) (ps : List Str) (sp : Sp) : Prop where
  ex : ∃ f fd, FnOk P w K mg base CX0 k f fd ps sp ∧ Meth K C m f ∧ Binds K fd ps []
  cls : Cls K C
theorem CalM.mono {P : Program} {w : World} {K : PySem.W.Frag} {mg : Str → Option Value} {base : Heap} {j k : Nat} {C : Addr} {x : Str} {ps : List Str} {sp : Sp} (c : CalM P w K mg base j C x ps sp) (h : j ≤ k) : CalM P w K mg base k C x ps sp :=
  let ⟨f, fd, a, b⟩ := c.ex
  ⟨⟨f, fd, a.mono h, b⟩, c.cls⟩
/-- a class that others call -/
structure CalC (P : Program) (w : World) (K : PySem.W.Frag) (mg : Str → Option Value) (base : Heap) (k : Nat) (C : Addr) (x : Str) (ps : List Str) (sp : Sp) : Prop where
  ex : ∃ f fd j, k = j + 1 ∧ FnOk P w K mg base CX0 j f fd ps sp ∧ Mk K C f ∧ mg x = some (.ref C) ∧ Binds K fd ps []
theorem CalC.mono {P : Program} {w : World} {K : PySem.W.Frag} {mg : Str → Option Value} {base : Heap} {j k : Nat} {C : Addr} {x : Str} {ps : List Str} {sp : Sp} (c : CalC P w K mg base j C x ps sp) (h : j ≤ k) : CalC P w K mg base k C x ps sp := by
  obtain ⟨f, fd, i, rfl, a, b⟩ := c.ex
  obtain ⟨n, rfl⟩ : ∃ n, k = n + 1 := ⟨k - 1, by omega⟩
  exact ⟨f, fd, n, rfl, a.mono (by omega), b⟩
section
variable {X : Cx} {k : Nat} {C : Addr} {x m : Str} {ps : List Str} {sp : Sp} {p pos apos : Pos} {e o : Expr} {es : List Expr} {ta : TE} {t : TA}
theorem pe_mcal {pl : Sem Bool} (he : PE X o ta) (c : CalM X.prog X.w X.K X.mg X.base k C m ps sp) (hr : Room k X.A) (ha : PA X (e :: es) t)
    (hst : starEach (e :: es) X.env = (false, eval e X.env) :: starEach es X.env := by rfl) (hpl : (backTo pos (starEach es X.env)).any (·.1) = false := by rfl)
    (ht : eval (.Call (.Attribute o m apos) (e :: es) [] pos) X.env = (do
      let ov ← eval o X.env
      standAt apos.atName
      let (f, first) ← holding [ov] (getMethod ov m pl)
      callWith pos f first (backTo pos (starEach (e :: es) X.env)) (backToKw pos (keywordEach [] X.env))) := by rfl) :
    PE X (.Call (.Attribute o m apos) (e :: es) [] pos) (tMeth C m sp [] E0 ta t) := by
  obtain ⟨f, fd, F, hm, hb⟩ := c.ex
  exact pe_meth he c.cls hm F hr hb .nil pass0 ha hst hpl ht
theorem pe_mcal0 {pl : Sem Bool} (he : PE X o ta) (c : CalM X.prog X.w X.K X.mg X.base k C m ps sp) (hr : Room k X.A)
    (ht : eval (.Call (.Attribute o m apos) [] [] pos) X.env = (do
      let ov ← eval o X.env
      standAt apos.atName
      let (f, first) ← holding [ov] (getMethod ov m pl)
      callWith pos f first (backTo pos (starEach [] X.env)) (backToKw pos (keywordEach [] X.env))) := by rfl) :
    PE X (.Call (.Attribute o m apos) [] [] pos) (tMeth C m sp [] E0 ta tNil) := by
  obtain ⟨f, fd, F, hm, hb⟩ := c.ex
  exact pe_meth0 he c.cls hm F hr hb .nil pass0 ht
theorem pe_ccal (c : CalC X.prog X.w X.K X.mg X.base k C x ps sp) (hr : Room k X.A) (hg : Gl X x) (ha : PA X (e :: es) t)
    (hdb : (x == ("__debug__" : Str)) = false := by decide) (he : starEach (e :: es) X.env = (false, eval e X.env) :: starEach es X.env := by rfl) (hpl : (backTo pos (starEach es X.env)).any (·.1) = false := by rfl) :
    PE X (.Call (.Name x p) (e :: es) [] pos) (tMake C sp [] E0 t) := by
  obtain ⟨f, fd, j, rfl, F, hM, hm, hb⟩ := c.ex
  exact pe_make hM F hr hg hm hb .nil pass0 ha hdb he hpl
end
/-! ### promises of defs that read objects and change none -/
def spR {ι : Type} (args : ι → List Rs) (hyp : ι → Hp → Hp → Prop) (post : ι → PyData → Prop) : Sp := fun vs H Q _ => ∃ (i : ι) (S : Hp), Same S H ∧ Paired (ResOk [] S) vs (args i) ∧ hyp i S H ∧ ∀ v d S' H', Grew S H S' H' → post i d → Dq S' v d → Q v H'
theorem spR_len {ι : Type} {args : ι → List Rs} {hyp : ι → Hp → Hp → Prop} {post : ι → PyData → Prop} {n : Nat} (hl : ∀ i, (args i).length = n) : ∀ vs H Q E, spR args hyp post vs H Q E → vs.length = n := fun vs H Q E ⟨i, S, _, h, _⟩ => by
  rw [Paired.length h, hl]
section
variable {P : Program} {w : World} {K : PySem.W.Frag} {S H S0 H0 : Hp} {M : List Addr} {cs : Cells} {Ω : Wd} {δ : List AS} {σ : L2.St} {R : KR} {ta te : TE}
theorem has_old {a : Addr} {c : Cell} (h : HasAt S H a c) (hm : a ∉ M) : Has (Wd.sym S H M cs) a c := fun S' H' _ hw => by
  obtain ⟨o, h1, h2⟩ := h
  exact ⟨o, (hw.2.1 a o h1 hm).1, c.mono _ _ _ hw.1 h2⟩
theorem has_now {a : Addr} {c : Cell} (h : Has (Wd.sym S0 H0 M cs) a c) (e : Same S H) (hw : (Wd.sym S0 H0 M cs).W S H) : HasAt S H a c := h S H e hw
theorem sym_grew {S' H' : Hp} (g : Good P w (Wd.sym S H [] cs) δ σ S' H') (e : Same S H) : Grew S H S' H' := by
  obtain ⟨w1, w2, _⟩ := g.wld
  exact ⟨w1, g.sub, fun p o h => (w2 p o h (by simp)).1, fun p o h => (w2 p o h (by simp)).2⟩
theorem run_spR {ι : Type} {args : ι → List Rs} {hyp : ι → Hp → Hp → Prop} {post : ι → PyData → Prop} {N : List Str} {ts : TS} {vs : List V} {Q : VK} {E : XK} (hsp : spR args hyp post vs H Q E)
    (h : ∀ i S H, hyp i S H → SE P w ts (Wd.sym S H [] []) (iniG N (args i)) ⟨fun Ω' _ => (∃ cs, Ω' = Wd.sym S H [] cs) ∧ post i .none, fun r Ω' => (∃ cs, Ω' = Wd.sym S H [] cs) ∧ ∃ d, r = .dat d ∧ post i d, fun _ _ => False, fun _ _ => False⟩) : ts { nx := fun _ H' => Q .non H', rt := Q } (start N vs) H := by
  obtain ⟨i, S, e, hv, hp, k⟩ := hsp
  have g : Good P w (Wd.sym S H [] []) (iniG N (args i)) (start N vs) S H := good_iniG (P := P) (w := w) (N := N) e hv CsOk.nil
  refine h i S H hp _ S H g _ ⟨fun Ω' δ' σ' S' H' ⟨⟨cs, a⟩, b⟩ g' s' => ?_, fun v r Ω' δ' σ' S' H' ⟨⟨cs, a⟩, d, er, b⟩ g' s' o => ?_, fun _ _ _ _ _ a _ _ => a.elim, fun _ _ _ _ _ a _ _ => a.elim⟩
  · subst a
    exact k .non .none S' H' (sym_grew g' e) b .non
  · subst a er
    exact k v d S' H' (sym_grew g' e) b o
theorem dats_ok : ∀ {vs : List V} {ds : List PyData}, DqAll S vs ds → Paired (ResOk [] S) vs (ds.map Rs.dat)
  | _, _, .nil => .nil
  | _, _, .cons h t => .cons h (dats_ok t)
/-- a def of data whose body makes objects -/
theorem run_spXS {ι : Type} {args : ι → List PyData} {pre : ι → Prop} {post : ι → PyData → Prop} {N : List Str} {ts : TS} {vs : List V} {Q : VK} {E : XK} (hsp : spX args pre post vs H Q E)
    (h : ∀ i S H, pre i → SE P w ts (Wd.sym S H [] []) (iniG N ((args i).map Rs.dat)) ⟨fun Ω' _ => (∃ cs, Ω' = Wd.sym S H [] cs) ∧ post i .none, fun r Ω' => (∃ cs, Ω' = Wd.sym S H [] cs) ∧ ∃ d, r = .dat d ∧ post i d, fun _ _ => False, fun _ _ => False⟩) : ts { nx := fun _ H' => Q .non H', rt := Q } (start N vs) H := by
  obtain ⟨i, S, e, hv, hp, k⟩ := hsp
  exact run_spR (args := fun i => (args i).map Rs.dat) (hyp := fun i _ _ => pre i) (post := post) (E := E) ⟨i, S, e, dats_ok hv, hp, k⟩ fun i S H hp => h i S H hp
theorem ee_callR {ι : Type} {args : ι → List Rs} {hyp : ι → Hp → Hp → Prop} {post : ι → PyData → Prop} {ta : TA} {E : XK} (h : EA P w ta Ω δ fun rs Ω1 δ1 => ∃ i, rs = args i ∧ (∀ r ∈ args i, ∀ j, r ≠ .own j) ∧ (∀ S H, Same S H → Ω1.W S H → hyp i S H) ∧ ∀ d, post i d → R (.dat d) Ω1 δ1) : EE P w (tCall (spR args hyp post) [] E ta) Ω δ R := fun σ S H g Q q =>
  h σ S H g _ fun vs rs Ω1 δ1 S1 H1 h1 g1 s1 o1 => by
    obtain ⟨i, rfl, hn, hp, k⟩ := h1
    show spR args hyp post (vs ++ []) H1 Q E
    rw [List.append_nil]
    exact ⟨i, S1, g1.sub, pairedG (vs := vs) hn o1, hp S1 H1 g1.sub g1.wld, fun v d S' H' gr hd hv => q v (.dat d) Ω1 δ1 S' H' (k d hd) (g1.grew gr) (s1.trans gr.step) hv⟩
theorem ee_methR {ι : Type} {C : Addr} {m : Str} {args : ι → List Rs} {hyp : ι → Hp → Hp → Prop} {post : ι → PyData → Prop} {t : TA} {E : XK}
    (h : EE P w ta Ω δ fun r Ω1 δ1 => ∃ a, r = .raw (.ref a) ∧ (∀ S H, Same S H → Ω1.W S H → ∃ dx fs, H a = some (.ins C dx fs) ∧ fs.lookup m = none) ∧ EA P w t Ω1 δ1 fun rs Ω2 δ2 => ∃ i, .raw (.ref a) :: rs = args i ∧ (∀ r ∈ args i, ∀ j, r ≠ .own j) ∧
      (∀ S H, Same S H → Ω2.W S H → hyp i S H) ∧ ∀ d, post i d → R (.dat d) Ω2 δ2) : EE P w (tMeth C m (spR args hyp post) [] E ta t) Ω δ R := fun σ S H g Q q =>
  h σ S H g _ fun x r0 Ω0 δ0 Sa Ha h0 g0 s0 o0 => by
    obtain ⟨a, rfl, hW, h0⟩ := h0
    obtain ⟨dx, fs, hA, hL⟩ := hW Sa Ha g0.sub g0.wld
    cases (show x = .ref a from o0)
    refine ⟨a, dx, fs, rfl, hA, hL, ?_⟩
    refine h0 σ Sa Ha g0 _ fun vs rs Ω1 δ1 S1 H1 h1 g1 s1 o1 => ?_
    obtain ⟨i, ea, hn, hy, k⟩ := h1
    show spR args hyp post (.ref a :: (vs ++ [])) H1 Q E
    rw [List.append_nil]
    have hp0 : Paired (ResOk σ S1) (.ref a :: vs) (args i) := by
      rw [← ea]
      exact .cons rfl o1
    exact ⟨i, S1, g1.sub, pairedG (vs := vs) hn hp0, hy S1 H1 g1.sub g1.wld, fun v d S' H' gr hd hv => q v (.dat d) Ω1 δ1 S' H' (k d hd) (g1.grew gr) (s0.trans (s1.trans gr.step)) hv⟩
end
end D
set_option Elab.async false
set_option linter.all false
set_option maxRecDepth 100000
set_option maxHeartbeats 4000000
set_option autoImplicit false
/-! Loops over lists of things that stand for data. -/
namespace D
open PySem PySem.Spec PyProof.Rows L2
theorem rangeD0 (n : Nat) : rangeD 0 n = (List.range n).map nI := by
  unfold rangeD
  refine List.map_congr_left fun i _ => ?_
  rw [Int.zero_add]
theorem rangeDn (a n : Nat) : rangeD (a : Int) n = ((List.range n).map fun i => a + i).map nI := by
  unfold rangeD
  rw [List.map_map]
  refine List.map_congr_left fun i _ => ?_
  show PyData.int _ = PyData.int _
  rw [Int.natCast_add]
theorem enumD_map {α : Type} (e : α → PyData) (xs : List α) : enumD (xs.map e) = xs.zipIdx.map fun q => .tuple [nI q.2, e q.1] := by
  refine List.ext_getElem? fun i => ?_
  rw [List.getElem?_map, List.getElem?_zipIdx]
  by_cases hi : i < xs.length
  · have h1 : (xs.map e)[i]? = some (e xs[i]) := by rw [List.getElem?_map, List.getElem?_eq_getElem hi]; rfl
    rw [enumD_get h1, List.getElem?_eq_getElem hi]
    simp
  · rw [List.getElem?_eq_none (by rw [enumD_len, List.length_map]; omega), List.getElem?_eq_none (by omega)]
    rfl
section
variable {P : Program} {w : World} {K : PySem.W.Frag} {Ω : Wd} {δ : List AS} {R : KR} {RN : List PyData → Wd → List AS → Prop} {ta tb te : TE} {tt tu : TT} {wi : TI} {g : TG} {vs : List Nat} {p : Po}
theorem ES.imp {RS RS' : List PyData → Wd → List AS → Prop} (h : ES P w wi Ω δ RS) (k : ∀ ds Ω' δ', RS ds Ω' δ' → RS' ds Ω' δ') : ES P w wi Ω δ RS' := fun σ S H gd Q q => h σ S H gd Q fun J ds Ω1 δ1 S1 H1 h1 => q J ds Ω1 δ1 S1 H1 (k _ _ _ h1)
theorem ET.imp {RT RT' : Bool → Wd → List AS → Prop} (h : ET P w tt Ω δ RT) (k : ∀ b Ω' δ', RT b Ω' δ' → RT' b Ω' δ') : ET P w tt Ω δ RT' := fun σ S H gd Q q => h σ S H gd Q fun b Ω1 δ1 S1 H1 h1 => q b Ω1 δ1 S1 H1 (k _ _ _ h1)
theorem EA.imp {t : TA} {RA RA' : List Rs → Wd → List AS → Prop} (h : EA P w t Ω δ RA) (k : ∀ rs Ω' δ', RA rs Ω' δ' → RA' rs Ω' δ') : EA P w t Ω δ RA' := fun σ S H gd Q q => h σ S H gd Q fun vs rs Ω1 δ1 S1 H1 h1 => q vs rs Ω1 δ1 S1 H1 (k _ _ _ h1)
theorem EN.imp {RN' : List PyData → Wd → List AS → Prop} (h : EN P w te Ω δ RN) (k : ∀ ds Ω' δ', RN ds Ω' δ' → RN' ds Ω' δ') : EN P w te Ω δ RN' := fun σ S H gd Q q => h σ S H gd Q fun b xs ds Ω1 δ1 S1 H1 h1 => q b xs ds Ω1 δ1 S1 H1 (k _ _ _ h1)
theorem et_andB {p q : Bool} {RT : Bool → Wd → List AS → Prop} (h1 : ET P w tt Ω δ fun b Ω1 δ1 => b = p ∧ Ω1 = Ω ∧ δ1 = δ) (h2 : p = true → ET P w tu Ω δ fun b Ω1 δ1 => b = q ∧ Ω1 = Ω ∧ δ1 = δ) (k : RT (p && q) Ω δ) : ET P w (tAnd tt tu) Ω δ RT :=
  et_and (h1.imp fun b Ω1 δ1 ⟨e1, e2, e3⟩ => by
    subst e1 e2 e3
    exact ⟨fun hb => (h2 hb).imp fun c Ω2 δ2 ⟨y1, y2, y3⟩ => (by
      subst y1 y2 y3
      rw [hb] at k
      exact k), fun hb => (by
      rw [hb] at k
      exact k)⟩)
theorem et_orB {p q : Bool} {RT : Bool → Wd → List AS → Prop} (h1 : ET P w tt Ω δ fun b Ω1 δ1 => b = p ∧ Ω1 = Ω ∧ δ1 = δ) (h2 : p = false → ET P w tu Ω δ fun b Ω1 δ1 => b = q ∧ Ω1 = Ω ∧ δ1 = δ) (k : RT (p || q) Ω δ) : ET P w (tOr tt tu) Ω δ RT :=
  et_or (h1.imp fun b Ω1 δ1 ⟨e1, e2, e3⟩ => by
    subst e1 e2 e3
    exact ⟨fun hb => (by
      rw [hb] at k
      exact k), fun hb => (h2 hb).imp fun c Ω2 δ2 ⟨y1, y2, y3⟩ => (by
      subst y1 y2 y3
      rw [hb] at k
      exact k)⟩)
theorem en_mapX {α : Type} (xs : List α) (e f : α → PyData) (h : ES P w wi Ω δ fun ds Ω1 δ1 => ds = xs.map e ∧ nmB δ1 vs = true ∧ xs.length < sizeLine ∧
    (∀ x ∈ xs, ∃ ups, GS g (e x) ups ∧ insB ups vs = true ∧ EE P w te Ω1 (setD (wipeD δ1 vs) ups) fun r Ω3 δ3 => Ω3 = Ω1 ∧ δ3 = setD (wipeD δ1 vs) ups ∧ r = .dat (f x)) ∧ RN (xs.map f) Ω1 δ1) : EN P w (tLc wi g tYes te vs) Ω δ RN := by
  refine en_map (h.imp fun ds Ω1 δ1 ⟨h1, h2, h3, h4, h5⟩ => ?_)
  subst h1
  refine ⟨h2, by rw [List.length_map]; exact h3, fun i => ((xs[i]?).map f).getD .none, fun i d hd => ?_, ?_⟩
  · rw [List.getElem?_map] at hd
    obtain ⟨x, hx, rfl⟩ := Option.map_eq_some_iff.mp hd
    obtain ⟨ups, z⟩ := h4 x (List.mem_of_getElem? hx)
    refine ⟨ups, ?_⟩
    have q : ((xs[i]?).map f).getD .none = f x := by rw [hx]; rfl
    dsimp only
    rw [q]
    exact z
  · have e2 : (List.range (xs.map e).length).map (fun i => ((xs[i]?).map f).getD .none) = xs.map f := map_range_get (by rw [List.length_map, List.length_map]) fun i d hd => by
      rw [List.getElem?_map] at hd
      rw [hd]
      rfl
    rw [e2]
    exact h5
theorem en_filtX {α : Type} (xs : List α) (e f : α → PyData) (t : α → Bool) (h : ES P w wi Ω δ fun ds Ω1 δ1 => ds = xs.map e ∧ nmB δ1 vs = true ∧ xs.length < sizeLine ∧
    (∀ x ∈ xs, ∃ ups, GS g (e x) ups ∧ insB ups vs = true ∧ ET P w tt Ω1 (setD (wipeD δ1 vs) ups) fun b Ω2 δ2 => Ω2 = Ω1 ∧ δ2 = setD (wipeD δ1 vs) ups ∧ b = t x ∧
      (t x = true → EE P w te Ω1 (setD (wipeD δ1 vs) ups) fun r Ω3 δ3 => Ω3 = Ω1 ∧ δ3 = setD (wipeD δ1 vs) ups ∧ r = .dat (f x))) ∧ RN ((xs.filter t).map f) Ω1 δ1) : EN P w (tLc wi g tt te vs) Ω δ RN := by
  refine en_filt (h.imp fun ds Ω1 δ1 ⟨h1, h2, h3, h4, h5⟩ => ?_)
  subst h1
  refine ⟨h2, by rw [List.length_map]; exact h3, fun i => ((xs[i]?).map t).getD false, fun i => ((xs[i]?).map f).getD .none, fun i d hd => ?_, ?_⟩
  · rw [List.getElem?_map] at hd
    obtain ⟨x, hx, rfl⟩ := Option.map_eq_some_iff.mp hd
    obtain ⟨ups, z⟩ := h4 x (List.mem_of_getElem? hx)
    refine ⟨ups, ?_⟩
    have q : ((xs[i]?).map f).getD .none = f x := by rw [hx]; rfl
    have q2 : ((xs[i]?).map t).getD false = t x := by rw [hx]; rfl
    dsimp only
    rw [q, q2]
    exact z
  · have e2 : ∀ n, n ≤ xs.length → ((List.range n).filter fun i => ((xs[i]?).map t).getD false).map (fun i => ((xs[i]?).map f).getD .none) = ((xs.take n).filter t).map f := by
      intro n
      induction n with
      | zero => intro _; rfl
      | succ n ih =>
        intro hn
        have hx : xs[n]? = some (xs[n]'(by omega)) := List.getElem?_eq_getElem (by omega)
        rw [List.range_succ, List.filter_append, List.map_append, ih (by omega), List.take_add_one, hx, List.filter_append, List.map_append]
        congr 1
        show List.map _ (List.filter _ [n]) = List.map f (List.filter t [xs[n]'(by omega)])
        rw [List.filter_cons, List.filter_cons, hx]
        cases h : t (xs[n]'(by omega))
        · simp [h]
        · simp [h, hx]
    rw [List.length_map, e2 _ (Nat.le_refl _), List.take_length]
    exact h5
/-- a loop over xs: the invariant tells of what is left -/
theorem se_forX {α : Type} {tb : TS} (xs : List α) (e : α → PyData) (I : List α → Wd → List AS → Prop) (h : ES P w wi Ω δ fun ds Ω1 δ1 => ds = xs.map e ∧ I xs Ω1 δ1 ∧
    (∀ pre x r Ω' δ', xs = pre ++ x :: r → I (x :: r) Ω' δ' → ∃ ups, GS g (e x) ups ∧ SE P w tb Ω' (setD δ' ups) ⟨I r, p.rt, p.nx, I r⟩) ∧ ∀ Ω' δ', I [] Ω' δ' → p.nx Ω' δ') : SE P w (tFor wi g tb) Ω δ p := by
  refine se_for (h.imp fun ds Ω1 δ1 ⟨h1, h2, h3, h4⟩ => ?_)
  subst h1
  refine ⟨fun i => I (xs.drop i), h2, fun i d Ω' δ' hd hI => ?_, fun Ω' δ' hI => ?_⟩
  · rw [List.getElem?_map] at hd
    obtain ⟨x, hx, rfl⟩ := Option.map_eq_some_iff.mp hd
    obtain ⟨hi, hx2⟩ := List.getElem?_eq_some_iff.mp hx
    have hdrop : xs.drop i = x :: xs.drop (i + 1) := by rw [List.drop_eq_getElem_cons hi, hx2]
    have hI' : I (x :: xs.drop (i + 1)) Ω' δ' := by rw [← hdrop]; exact hI
    exact h3 (xs.take i) x (xs.drop (i + 1)) Ω' δ' (by rw [← hdrop, List.take_append_drop]) hI'
  · rw [List.length_map, List.drop_length] at hI
    exact h4 Ω' δ' hI
theorem eqv_str (x y : Str) : PyData.eqv (.str x) (.str y) = decide (x = y) := by
  rw [PyData.eqv]
  by_cases h : x = y <;> simp [h]
theorem eqv_nI (x y : Nat) : PyData.eqv (nI x) (nI y) = decide (x = y) := by
  rw [PyData.eqv]
  by_cases h : x = y <;> simp [h] <;> omega
theorem n_eqS {x y : Str} (hx : SeqAt.shaped (.str x) = true) (hy : SeqAt.shaped (.str y) = true) (k : R (.dat (.bool (decide (x = y)))) Ω δ) : O2 P w (rEqD K) (.dat (.str x)) (.dat (.str y)) Ω δ R := o2_eqD hx hy (by rw [eqv_str]; exact k)
theorem eqv_str_int (x : Str) (n : Int) : PyData.eqv (.int n) (.str x) = false := by
  rw [PyData.eqv] <;> simp
theorem eqv_tup (xs ys : List PyData) : PyData.eqv (.tuple xs) (.tuple ys) = PyData.eqvAll xs ys := by
  rw [PyData.eqv]
theorem eqv_lst (xs ys : List PyData) : PyData.eqv (.list xs) (.list ys) = PyData.eqvAll xs ys := by
  rw [PyData.eqv]
theorem eqvAll_cons (x y : PyData) (xs ys : List PyData) : PyData.eqvAll (x :: xs) (y :: ys) = (PyData.eqv x y && PyData.eqvAll xs ys) := by
  rw [PyData.eqvAll]
theorem eqvAll_nil : PyData.eqvAll [] [] = true := by
  rw [PyData.eqvAll]
theorem eqvAll_map {α : Type} [DecidableEq α] (e : α → PyData) (he : ∀ x y, PyData.eqv (e x) (e y) = decide (x = y)) : ∀ xs ys : List α, PyData.eqvAll (xs.map e) (ys.map e) = decide (xs = ys)
  | [], [] => by rw [List.map_nil, eqvAll_nil]; rfl
  | [], y :: ys => by rw [List.map_nil, List.map_cons, PyData.eqvAll]; simp
  | x :: xs, [] => by rw [List.map_nil, List.map_cons, PyData.eqvAll]; simp
  | x :: xs, y :: ys => by
    rw [List.map_cons, List.map_cons, eqvAll_cons, he, eqvAll_map e he xs ys]
    by_cases h : x = y <;> by_cases h2 : xs = ys <;> simp [h, h2]
theorem sh_bit : SeqAt.shaped (.str "bit") = true := by decide +kernel
theorem sh_place : SeqAt.shaped (.str "place") = true := by decide +kernel
end
end D
set_option Elab.async false
set_option linter.all false
set_option maxRecDepth 100000
set_option maxHeartbeats 4000000
set_option autoImplicit false
/-! The rules with the text's facts told by name: for what stands in a comprehension. -/
namespace D
open PySem PySem.Spec PyProof.Rows L2
section
variable {X : Cx} {K : PySem.W.Frag} {P : Program} {w : World}
theorem ixK_list (hK : X.K = K) : IxR X (rIxL K) := by subst hK; exact ix_list
theorem ixK_tup (hK : X.K = K) : IxR X (rIxT K) := by subst hK; exact ix_tup
theorem opK_eqD (hK : X.K = K) (hu : X.A.units + 64 < cLine) : OpR X (compareOp .Eq) (rEqD K) := by subst hK; exact op_eqD hu
theorem opK_neD (hK : X.K = K) (hu : X.A.units + 64 < cLine) : OpR X (compareOp .NotEq) (rNeD K) := by subst hK; exact op_neD hu
theorem opK_inD (hK : X.K = K) (hu : X.A.units + 65 < cLine) : OpR X (compareOp .In) (rInD K) := by subst hK; exact op_inD hu
theorem opK_notInD (hK : X.K = K) (hu : X.A.units + 65 < cLine) : OpR X (compareOp .NotIn) (rNotInD K) := by subst hK; exact op_notInD hu
theorem callK_len2 (hK : X.K = K) : CallR X (.builtin "len") (rLen2 K) := by subst hK; exact call_len2
theorem callK_listOf (hK : X.K = K) : CallR X (.type "list") (rListOf K) := by subst hK; exact call_listOf
theorem callK_tupOf (hK : X.K = K) : CallR X (.type "tuple") (rTupOf K) := by subst hK; exact call_tupOf
theorem piK_list {tg l : Expr} {tl : TE} (hK : X.K = K) (hl : PE X l tl) : PI X tg l (iList K tl) := by subst hK; exact pi_list hl
theorem piK_tup {tg l : Expr} {tl : TE} (hK : X.K = K) (hl : PE X l tl) : PI X tg l (iTup K tl) := by subst hK; exact pi_tup hl
theorem peK_fld {e : Expr} {f : Str} {pos : Pos} {ta : TE} (hK : X.K = K) (he : PE X e ta) (hb : attributeBase e f X.env (eval e X.env) = eval e X.env) : PE X (.Attribute e f pos) (tFld K ta f) := by subst hK; exact pe_fld he hb
theorem peK_nget {kk : Nat} {o i : Expr} {pos : Pos} {td ty : TE} (hP : X.prog = P) (hw : X.w = w) (hr : Room kk X.A) (ho : PE X o td) (hi : PE X i ty) (hs : NoSl i) : PE X (.Subscript o i pos) (tNGet P w td ty) := by subst hP hw; exact pe_nget hr ho hi hs
theorem pcK_nin {kk : Nat} {o i : Expr} {td ty : TE} (hP : X.prog = P) (hw : X.w = w) (hr : Room kk X.A) (hi : PE X i ty) (ho : PE X o td) : PC X .In i o (tNIn P w false ty td) := by subst hP hw; exact pc_nin hr hi ho
end
end D
set_option Elab.async false
set_option linter.all false
set_option maxRecDepth 100000
set_option maxHeartbeats 4000000
set_option autoImplicit false
/-! A slot's own dict becomes a cell; loops over lists that are cells. -/
namespace D
open PySem PySem.Spec PyProof.Rows L2
section
variable {P : Program} {w : World} {K : PySem.W.Frag} {S0 H0 S H : Hp} {M : List Addr} {cs : Cells} {δ : List AS} {σ : L2.St} {p : Po} {ts : TS} {te : TE} {Ω : Wd}
theorem Good.toCell {i : Nat} {kvs : List (NK × PyData)} (g : Good P w (Wd.sym S0 H0 M cs) δ σ S H) (hi : δ[i]? = some (.dic kvs)) : ∃ b, σ[i]? = some (some (.ref b)) ∧ Good P w (Wd.sym S0 H0 M ((b, .dic P w b kvs) :: cs)) (δ.set i (.raw (.ref b))) σ S H ∧
    Step (Wd.sym S0 H0 M cs) δ σ S H (Wd.sym S0 H0 M ((b, .dic P w b kvs) :: cs)) (δ.set i (.raw (.ref b))) σ S H := by
  obtain ⟨b, es, h1, hF, hS, h4, h5⟩ := slot_at g hi
  have h1' := join_some h1
  have hset : σ.set i (some (.ref b)) = σ := by
    obtain ⟨hlt, e⟩ := List.getElem?_eq_some_iff.mp h1'
    rw [← e]
    exact List.set_getElem_self hlt
  have g2 := g.set (i := i) (a := .raw (.ref b)) (x := some (.ref b)) rfl rfl
  rw [hset] at g2
  have hT : ¬ Tch (Wd.sym S0 H0 M cs) (δ.set i (.raw (.ref b))) σ b := fun t => by
    rcases t with t | ⟨j, ⟨a, e1, e2⟩, e3⟩
    · exact hF t
    · by_cases e : i = j
      · subst e
        have hlt := (List.getElem?_eq_some_iff.mp hi).1
        rw [List.getElem?_set_self hlt] at e1
        cases e1
        cases e2
      · rw [List.getElem?_set_ne e] at e1
        exact e (g.dist i j b ⟨⟨_, hi, rfl⟩, h1'⟩ ⟨⟨a, e1, e2⟩, e3⟩)
  have hmine : ∀ {j q}, Mine (δ.set i (.raw (.ref b))) σ j q → Mine δ σ j q := fun {j q} ⟨⟨a, e1, e2⟩, e3⟩ => by
    by_cases e : i = j
    · subst e
      have hlt := (List.getElem?_eq_some_iff.mp hi).1
      rw [List.getElem?_set_self hlt] at e1
      cases e1
      cases e2
    · rw [List.getElem?_set_ne e] at e1
      exact ⟨⟨a, e1, e2⟩, e3⟩
  refine ⟨b, h1', g2.cellNew h4 hS hT ⟨es, rfl, h5⟩, Same.refl S, fun q u hq hn => ⟨hq, rfl, fun t => hn ?_⟩, fun q u hq => ⟨u, hq⟩⟩
  rcases t with (t | t) | ⟨j, t⟩
  · exact .inl (.inl t)
  · rcases List.mem_cons.mp (show q ∈ b :: adr cs from t) with e | t
    · rw [e]
      exact .inr ⟨i, ⟨_, hi, rfl⟩, h1'⟩
    · exact .inl (.inr t)
  · exact .inr ⟨j, hmine t⟩
theorem se_cellD {i : Nat} {kvs : List (NK × PyData)} (hi : δ[i]? = some (.dic kvs)) (h : ∀ b, SE P w ts (Wd.sym S0 H0 M ((b, .dic P w b kvs) :: cs)) (δ.set i (.raw (.ref b))) p) : SE P w ts (Wd.sym S0 H0 M cs) δ p := fun σ S H g D q => by
  obtain ⟨b, _, g1, s1⟩ := g.toCell hi
  exact h b σ S H g1 D (q.step s1)
end
end D
set_option Elab.async false
set_option linter.all false
set_option maxRecDepth 100000
set_option maxHeartbeats 4000000
set_option autoImplicit false
/-! Comprehensions over lists that are cells. -/
namespace D
open PySem PySem.Spec PyProof.Rows L2
section
variable {P : Program} {w : World} {K : PySem.W.Frag} {Ω Ω1 : Wd} {δ δ1 : List AS} {σ : L2.St} {S H S1 H1 : Hp} {R : KR} {RN : List PyData → Wd → List AS → Prop} {ta tb te : TE} {tt tu : TT} {wi : TI} {g : TG} {vs : List Nat}
/-- J walks over ds as long as the world is Ω -/
structure WalkF (P : Program) (w : World) (Ω : Wd) (J : It) (ds : List PyData) (S : Hp) : Prop where
  go : ∀ δ σ S1 H1, Good P w Ω δ σ S1 H1 → Same S S1 → ∀ i, i < ds.length → J.go i H1 ∧ ∀ x H2, J.yld i H1 x H2 → ∃ S2 d, Good P w Ω δ σ S2 H2 ∧ Step Ω δ σ S1 H1 Ω δ σ S2 H2 ∧ ds[i]? = some d ∧ Dq S2 x d
  stop : ∀ δ σ S1 H1, Good P w Ω δ σ S1 H1 → Same S S1 → J.stop ds.length H1
def ESf (P : Program) (w : World) (wi : TI) (Ω : Wd) (δ : List AS) (RS : List PyData → Wd → List AS → Prop) : Prop :=
  ∀ σ S H, Good P w Ω δ σ S H → ∀ Q : It → Hp → Prop, (∀ J ds Ω' δ' S' H', RS ds Ω' δ' → Good P w Ω' δ' σ S' H' → Step Ω δ σ S H Ω' δ' σ S' H' → WalkF P w Ω' J ds S' → Q J H') → wi σ H Q
theorem ES.fixed {RS : List PyData → Wd → List AS → Prop} (h : ES P w wi Ω δ RS) : ESf P w wi Ω δ RS := fun σ S H gd Q q => h σ S H gd Q fun J ds Ω1 δ1 S1 H1 a g1 s1 wk => q J ds Ω1 δ1 S1 H1 a g1 s1 ⟨fun δ σ S1 H1 g e => wk.go Ω1 δ σ S1 H1 g e, fun δ σ S1 H1 g e => wk.stop Ω1 δ σ S1 H1 g e⟩
theorem ESf.imp {RS RS' : List PyData → Wd → List AS → Prop} (h : ESf P w wi Ω δ RS) (k : ∀ ds Ω' δ', RS ds Ω' δ' → RS' ds Ω' δ') : ESf P w wi Ω δ RS' := fun σ S H gd Q q => h σ S H gd Q fun J ds Ω1 δ1 S1 H1 h1 => q J ds Ω1 δ1 S1 H1 (k _ _ _ h1)
theorem walkF_list {a : Addr} {ds : List PyData} (hs : Has Ω a (.lst ds)) : WalkF P w Ω (Itl K a) ds S where
  go := fun δ σ S1 H1 g e i hi => by
    obtain ⟨u, h1, xs, rfl, hd⟩ := hs S1 H1 g.sub g.wld
    have q : SqL K H1 a xs := SqL.of h1
    have hl := hd.length
    refine ⟨walk_list.goes i H1 (by omega) q, fun x H2 y => ?_⟩
    obtain ⟨rfl, hx⟩ := walk_list.yields i H1 x H2 (by omega) q y
    obtain ⟨d, h1, h2⟩ := hd.get' hx
    exact ⟨S1, d, g, Step.refl, h1, h2⟩
  stop := fun δ σ S1 H1 g e => by
    obtain ⟨u, h1, xs, rfl, hd⟩ := hs S1 H1 g.sub g.wld
    have q : SqL K H1 a xs := SqL.of h1
    rw [← hd.length]
    exact walk_list.stops H1 q
theorem es_listH {RS : List PyData → Wd → List AS → Prop} (h : EE P w te Ω δ fun r Ω1 δ1 => ∃ a ds, r = .raw (.ref a) ∧ Has Ω1 a (.lst ds) ∧ RS ds Ω1 δ1) : ESf P w (iList K te) Ω δ RS := fun σ S H gd Q q =>
  h σ S H gd _ fun x r Ω1 δ1 S1 H1 ⟨a, ds, e, hs, k⟩ g1 s1 o1 => by
    subst e
    cases (show x = .ref a from o1)
    obtain ⟨u, h1, xs, rfl, hd⟩ := hs S1 H1 g1.sub g1.wld
    exact ⟨a, rfl, ⟨xs, SqL.of h1⟩, q (Itl K a) ds Ω1 δ1 S1 H1 k g1 s1 (walkF_list hs)⟩
theorem en_lcF {wi : TI} {g : TG} {vs : List Nat} (h : ESf P w wi Ω δ fun ds Ω1 δ1 => NotMine δ1 vs ∧ ds.length < sizeLine ∧ ∃ I : Nat → List PyData → Prop, I 0 [] ∧
    (∀ i d acc, ds[i]? = some d → I i acc → ∃ ups, GS g d ups ∧ (∀ u ∈ ups, u.1 ∈ vs) ∧ ET P w tt Ω1 (setD (wipeD δ1 vs) ups) fun b Ω2 δ2 => Ω2 = Ω1 ∧ δ2 = setD (wipeD δ1 vs) ups ∧
      (b = true → EE P w te Ω2 δ2 fun r Ω3 δ3 => Ω3 = Ω1 ∧ δ3 = setD (wipeD δ1 vs) ups ∧ ∃ e, r = .dat e ∧ I (i + 1) (acc ++ [e])) ∧ (b = false → I (i + 1) acc)) ∧
    ∀ acc, acc.length ≤ ds.length → I ds.length acc → RN acc Ω1 δ1) : EN P w (tLc wi g tt te vs) Ω δ RN := fun σ S H gd Q q =>
  h σ S H gd _ fun J ds Ω1 δ1 S1 H1 h1 g1 s1 wk => fun Da hD => by
    obtain ⟨hn, hz, I, i0, turn, fin⟩ := h1
    have hT0 : ¬ Tch Ω1 δ1 σ Da := g1.notTch hD
    refine ⟨fun i m H' => m = ds.length - i ∧ i ≤ ds.length ∧ ∃ S' xs acc, I i acc ∧ acc.length ≤ i ∧ Good P w Ω1 δ1 σ S' H' ∧ Step Ω1 δ1 σ S1 H1 Ω1 δ1 σ S' H' ∧ H' Da = some (.lst xs) ∧ S' Da = none ∧ DqAll S' xs acc,
      ⟨_, rfl, Nat.zero_le _, S1, [], [], i0, Nat.zero_le _, g1.new' hD, Step.new' hD, upd_same, g1.sub.free hD, .nil⟩, ?_⟩
    rintro i m H' ⟨rfl, hi, S', xs, acc, hI, hacc, g', s', hl, hS, hd⟩
    by_cases hlt : i < ds.length
    · obtain ⟨go, yl⟩ := wk.go δ1 σ S' H' g' s'.same i hlt
      refine .inr ⟨go, fun H2 => ∃ S2 xs acc, I (i + 1) acc ∧ acc.length ≤ i + 1 ∧ Good P w Ω1 δ1 σ S2 H2 ∧ Step Ω1 δ1 σ S1 H1 Ω1 δ1 σ S2 H2 ∧ H2 Da = some (.lst xs) ∧ S2 Da = none ∧ DqAll S2 xs acc, fun H2 a => ⟨_, by omega, rfl, hlt, a⟩, fun x H2 y => ?_⟩
      obtain ⟨S2, d, g2, s2, hd2, hx⟩ := yl x H2 y
      obtain ⟨k1, k2, k3⟩ := s2.keep Da _ hl hT0
      obtain ⟨ups, hg, hu, hb⟩ := turn i d acc hd2 hI
      obtain ⟨gw, sw⟩ := g2.wipe vs
      refine hg S2 H2 (wipe σ vs) x _ g2.sub hx fun us hus => ?_
      obtain ⟨g3, s3⟩ := Good.sets gw hus
      have keys : ∀ u ∈ us, u.1 ∈ vs := fun u hu2 => by
        have : u.1 ∈ ups.map (·.1) := by
          rw [← upOk_keys hus]
          exact List.mem_map_of_mem hu2
        obtain ⟨z, z1, z2⟩ := List.mem_map.mp this
        rw [← z2]
        exact hu z z1
      have offD : ∀ j, j ∉ vs → (setD (wipeD δ1 vs) ups)[j]? = δ1[j]? := fun j hj => by
        rw [setD_off ups _ (fun z hz (e : z.1 = j) => hj (by rw [← e]; exact hu z hz)), wipeD_off hj]
      have offV : ∀ j, j ∉ vs → (setV (wipe σ vs) us)[j]? = σ[j]? := fun j hj => by
        rw [setV_off us _ (fun z hz (e : z.1 = j) => hj (by rw [← e]; exact keys z hz)), wipe_off hj]
      refine ⟨wipe_eq (by rw [setV_len, wipe_length]) offV, ?_⟩
      -- what a state behind the block says
      have back : ∀ {S4 H4 : Hp}, Good P w Ω1 (setD (wipeD δ1 vs) ups) (setV (wipe σ vs) us) S4 H4 → Step Ω1 (setD (wipeD δ1 vs) ups) (setV (wipe σ vs) us) S2 H2 Ω1 (setD (wipeD δ1 vs) ups) (setV (wipe σ vs) us) S4 H4 →
          Good P w Ω1 δ1 σ S4 H4 ∧ Step Ω1 δ1 σ S2 H2 Ω1 δ1 σ S4 H4 := fun {S4 H4} g4 s4 =>
        ⟨g2.unwipe g4 s4.same offD offV hn, s4.same, fun b o hb n => by
          have st := (sw.trans s3).trans s4
          obtain ⟨z1, z2, z3⟩ := st.keep b o hb n
          exact ⟨z1, z2, fun t => z3 (t.imp id fun ⟨j, m⟩ => ⟨j, mine_off offD offV hn m⟩)⟩, s4.dom⟩
      refine hb _ S2 H2 g3 _ fun b Ω4 δ4 S4 H4 h4 g4 s4 => ?_
      obtain ⟨rfl, rfl, hyes, hno⟩ := h4
      obtain ⟨g5, s5⟩ := back g4 s4
      obtain ⟨l1, l2, l3⟩ := s5.keep Da _ k1 hT0
      cases b with
      | false =>
        rw [if_neg Bool.false_ne_true]
        exact ⟨S4, xs, acc, hno rfl, Nat.le_succ_of_le hacc, g5, (s'.trans s2).trans s5, l1, l2.trans (k2.trans hS), (hd.mono s2.same).mono s5.same⟩
      | true =>
        rw [if_pos rfl]
        refine hyes rfl _ S4 H4 g4 _ fun y r Ω6 δ6 S6 H6 h6 g6 s6 o6 => ?_
        obtain ⟨rfl, rfl, e, rfl, hI6⟩ := h6
        obtain ⟨g7, s7⟩ := back g6 (s4.trans s6)
        obtain ⟨m1, m2, m3⟩ := s7.keep Da _ k1 hT0
        have hS6 : S6 Da = none := m2.trans (k2.trans hS)
        have hd6 : DqAll S6 xs acc := (hd.mono s2.same).mono s7.same
        have st := (s'.trans s2).trans s7
        refine ⟨xs, m1, ?_, S6, _, acc ++ [e], hI6, by rw [List.length_append, List.length_singleton]; omega, g7.other hS6 hT0, ⟨st.same, fun b o hb n => ?_, fun b o hb => ?_⟩, upd_same, hS6, hd6.append (.cons o6 .nil)⟩
        · rw [hd6.length]
          omega
        · obtain ⟨z1, z2, z3⟩ := st.keep b o hb n
          exact ⟨(upd_ne (ne_of_none hb hD)).trans z1, z2, z3⟩
        · obtain ⟨u, z⟩ := st.dom b o hb
          exact ⟨u, (upd_ne (ne_of_none hb hD)).trans z⟩
    · have e : i = ds.length := by omega
      subst e
      refine .inl ⟨wk.stop δ1 σ S' H' g' s'.same, ?_⟩
      exact q Da xs acc Ω1 δ1 S' H' (fin acc hacc hI) g' (s1.trans s') (s1.back hD) hl hS hT0 hd

/-- a comprehension of which only a property of its items is told -/
theorem en_anyX {α : Type} (xs : List α) (e : α → PyData) (Qd : PyData → Prop) (h : ESf P w wi Ω δ fun ds Ω1 δ1 => ds = xs.map e ∧ nmB δ1 vs = true ∧ xs.length < sizeLine ∧
    (∀ x ∈ xs, ∃ ups, GS g (e x) ups ∧ insB ups vs = true ∧ EE P w te Ω1 (setD (wipeD δ1 vs) ups) fun r Ω3 δ3 => Ω3 = Ω1 ∧ δ3 = setD (wipeD δ1 vs) ups ∧ ∃ d, r = .dat d ∧ Qd d) ∧ ∀ acc, acc.length ≤ xs.length → (∀ d ∈ acc, Qd d) → RN acc Ω1 δ1) : EN P w (tLc wi g tYes te vs) Ω δ RN :=
  en_lcF (h.imp fun ds Ω1 δ1 ⟨h1, h2, h3, h4, h5⟩ => by
    subst h1
    refine ⟨nm_of h2, by rw [List.length_map]; exact h3, fun i acc => ∀ d ∈ acc, Qd d, (fun _ z => nomatch z), fun i d acc hd ha => ?_, fun acc hl ha => h5 acc (by rw [List.length_map] at hl; exact hl) ha⟩
    rw [List.getElem?_map] at hd
    obtain ⟨x, hx, rfl⟩ := Option.map_eq_some_iff.mp hd
    obtain ⟨ups, e1, e2, e3⟩ := h4 x (List.mem_of_getElem? hx)
    refine ⟨ups, e1, ins_of e2, et_yes ⟨rfl, rfl, fun _ => ?_, (fun z => nomatch z)⟩⟩
    refine e3.imp fun r Ω3 δ3 ⟨z1, z2, d, z3, z4⟩ => ⟨z1, z2, d, z3, fun y hy => ?_⟩
    rcases List.mem_append.mp hy with hy | hy
    · exact ha y hy
    · rw [List.mem_singleton.mp hy]
      exact z4)
end
end D
set_option Elab.async false
set_option linter.all false
set_option maxRecDepth 100000
set_option maxHeartbeats 4000000
set_option autoImplicit false
/-! Items of lists that are cells, written. -/
namespace D
open PySem PySem.Spec PyProof.Rows L2
section
variable {P : Program} {w : World} {K : PySem.W.Frag} {S0 H0 S H : Hp} {M : List Addr} {cs : Cells} {δ : List AS} {σ : L2.St} {p : Po} {ts : TS} {te to ti : TE} {Ω : Wd}
theorem ixN_of {n j : Nat} (h : j < n) : ixN n (j : Int) = some j := by
  unfold ixN
  simp [h]
theorem se_setItC (h : EE P w te Ω δ fun r Ω1 δ1 => EE P w to Ω1 δ1 fun r1 Ω2 δ2 => EE P w ti Ω2 δ2 fun r2 Ω3 δ3 => ∃ S0 H0 M cs n a d ds, ∃ j : Nat, Ω3 = Wd.sym S0 H0 M cs ∧ r = .dat d ∧ r1 = .raw (.ref a) ∧ cs[n]? = some (a, .lst ds) ∧ r2 = .dat (nI j) ∧ j < ds.length ∧ p.nx (Wd.sym S0 H0 M (cs.set n (a, .lst (ds.set j d)))) δ3) :
    SE P w (tAsg te (gSub to ti rSetL)) Ω δ p := fun σ S H g D q =>
  h σ S H g _ fun v r Ω1 δ1 S1 H1 h1 g1 s1 o1 => h1 σ S1 H1 g1 _ fun x r1 Ω2 δ2 S2 H2 h2 g2 s2 o2 => h2 σ S2 H2 g2 _ fun y r2 Ω3 δ3 S3 H3 h3 g3 s3 o3 => by
    obtain ⟨S0, H0, M, cs, n, a, d, ds, j, rfl, rfl, rfl, hn, rfl, hj, z⟩ := h3
    cases (show x = .ref a from o2)
    rw [Dq.int_inv o3]
    obtain ⟨hS, o, e1, xs, rfl, e2⟩ := cell_at g3.wld.2.2.1 hn
    have hv : Dq S3 v d := (Dq.mono s2.same o1).mono s3.same
    obtain ⟨g4, s4⟩ := g3.cell (c' := .lst (ds.set j d)) (o := .lst (xs.set j v)) hn ⟨_, rfl, e2.set hv j⟩
    exact ⟨a, xs, _, j, rfl, rfl, e1, ixN_of (by rw [e2.length]; exact hj), q.nx _ _ _ _ _ z g4 ((s1.trans (s2.trans s3)).trans s4)⟩
end
end D
set_option Elab.async false
set_option linter.all false
set_option maxRecDepth 100000
set_option maxHeartbeats 4000000
set_option autoImplicit false
/-! Loops over a list or a tuple; `is not None`; cells forgotten. -/
namespace D
open PySem PySem.Spec PyProof.Rows L2
def iSeq (K : PySem.W.Frag) (tl : TE) : TI := fun σ H R => tl σ H fun x H1 => ∃ a, x = .ref a ∧ (((∃ xs, SqL K H1 a xs) ∧ R (Itl K a) H1) ∨ ((∃ xs, SqT K H1 a xs) ∧ R (Itt K a) H1))
theorem pi_seq {X : Cx} {tg l : Expr} {tl : TE} (hl : PE X l tl) : PI X tg l (iSeq X.K tl) := by
  refine ⟨fun pins s σ H R I h => ?_⟩
  refine thn (hl.run pins s σ H _ I h) fun v s1 ⟨x, H1, I1, r1, q1⟩ => ?_
  obtain ⟨a, e, q⟩ := q1
  subst e
  cases r1
  rcases q with ⟨⟨xs, hq⟩, q⟩ | ⟨⟨xs, hq⟩, q⟩
  · obtain ⟨its, rv, p, hz⟩ := I1.list hq
    refine wpAny_pyIter_list p.isList ?_
    refine ⟨s1.heap.objs.size, [s1.heap.objs.size], _, _, H1, rfl, I1.kept (t' := s1.toks) fun b o e => Heap.get?_push_of_some _ e, turn_list a _, ⟨_, Heap.get?_push_size _ rfl, rfl, rfl⟩, fun b hb => ?_, q⟩
    have e : b = s1.heap.objs.size := by simpa using hb
    subst e
    exact I1.fpOk (Nat.le_refl _) (I1.hok.fresh (Nat.le_refl _))
  · obtain ⟨its, rv, p, hz⟩ := I1.tuple hq
    refine wpAny_pyIter_tuple (show s1.heap.IsTuple a its.toArray from p) ?_
    refine ⟨s1.heap.objs.size, [s1.heap.objs.size], _, _, H1, rfl, I1.kept (t' := s1.toks) fun b o e => Heap.get?_push_of_some _ e, turn_tuple a _, ⟨_, Heap.get?_push_size _ rfl, rfl, rfl⟩, fun b hb => ?_, q⟩
    have e : b = s1.heap.objs.size := by simpa using hb
    subst e
    exact I1.fpOk (Nat.le_refl _) (I1.hok.fresh (Nat.le_refl _))
section
variable {P : Program} {w : World} {K : PySem.W.Frag} {S0 H0 S H : Hp} {M : List Addr} {cs : Cells} {δ : List AS} {σ : L2.St} {p : Po} {ts : TS} {te to ti : TE} {Ω : Wd} {R : KR}
/-- a list, or a tuple -/
def IsSeqD (ds : List PyData) (d : PyData) : Prop := d = .list ds ∨ d = .tuple ds
theorem es_seq {RS : List PyData → Wd → List AS → Prop} (h : EE P w te Ω δ fun r Ω1 δ1 => ∃ d ds, r = .dat d ∧ IsSeqD ds d ∧ RS ds Ω1 δ1) : ES P w (iSeq K te) Ω δ RS := fun σ S H g Q q =>
  h σ S H g _ fun x r1 Ω1 δ1 S1 H1 h1 g1 s1 o1 => by
    obtain ⟨d, ds, rfl, e, h1⟩ := h1
    rcases e with rfl | rfl
    · obtain ⟨a, xs, rfl, k1, k2⟩ := Dq.lst_inv o1
      exact ⟨a, rfl, .inl ⟨⟨xs, SqL.of (g1.sub _ _ k1)⟩, q _ _ _ _ _ _ h1 g1 s1 (walkD_list k1 k2)⟩⟩
    · obtain ⟨a, xs, rfl, k1, k2⟩ := Dq.tup_inv o1
      exact ⟨a, rfl, .inr ⟨⟨xs, SqT.of (g1.sub _ _ k1)⟩, q _ _ _ _ _ _ h1 g1 s1 (walkD_tup k1 k2)⟩⟩
def isNoneD : PyData → Bool
  | .none => true
  | _ => false
theorem ee_notN (h : EE P w te Ω δ fun r Ω1 δ1 => ∃ d, r = .dat d ∧ R (.dat (.bool (!isNoneD d))) Ω1 δ1) : EE P w (tNotN te) Ω δ R := fun σ S H g Q q =>
  h σ S H g _ fun x r Ω1 δ1 S1 H1 ⟨d, e, k⟩ g1 s1 o1 => by
    subst e
    have e : (!decide (x = V.non)) = !isNoneD d := by
      cases (show Dq S1 x d from o1) <;> simp [isNoneD]
    show Q (.bl (!decide (x = V.non))) H1
    rw [e]
    exact q _ _ Ω1 δ1 S1 H1 k g1 s1 (.bl _)
theorem Good.forget {a b : Cells} (g : Good P w (Wd.sym S0 H0 M (a ++ b)) δ σ S H) : Good P w (Wd.sym S0 H0 M b) δ σ S H ∧ Step (Wd.sym S0 H0 M (a ++ b)) δ σ S H (Wd.sym S0 H0 M b) δ σ S H := by
  have hF : ∀ q, (Wd.sym S0 H0 M b).F q → (Wd.sym S0 H0 M (a ++ b)).F q := fun q hq => by
    rcases hq with hq | hq
    · exact .inl hq
    · exact .inr (by rw [adr, List.map_append]; exact List.mem_append_right _ hq)
  obtain ⟨w1, w2, w3, w4⟩ := g.wld
  refine ⟨⟨g.sub, ⟨w1, w2, w3.right, fun x hx => w4 x (List.mem_append_right _ hx)⟩, fun q hq => g.fok q (hF q hq), g.len, fun i c e => ?_, g.dist⟩, Same.refl S, fun q u hq hT => ⟨hq, rfl, fun t => hT (t.imp (hF q) id)⟩, fun q u hq => ⟨u, hq⟩⟩
  have z := g.slot i c e
  cases c with
  | un => trivial
  | raw v => exact z
  | dat d => exact z
  | own ds => obtain ⟨p, xs, q1, q2, q3⟩ := z; exact ⟨p, xs, q1, fun y => q2 (hF p y), q3⟩
  | dic ds => obtain ⟨p, xs, q1, q2, q3⟩ := z; exact ⟨p, xs, q1, fun y => q2 (hF p y), q3⟩
theorem ee_forget {a b : Cells} (h : EE P w te (Wd.sym S0 H0 M b) δ R) : EE P w te (Wd.sym S0 H0 M (a ++ b)) δ R := fun σ S H g Q q => by
  obtain ⟨g1, s1⟩ := g.forget
  exact h σ S H g1 Q fun v r Ω' δ' S' H' x y z => q v r Ω' δ' S' H' x y (s1.trans z)
/-- at a return: cells forgotten behind the value -/
theorem EE.drop (h : EE P w te Ω δ fun r Ω1 δ1 => ∃ S0 H0 M a b, Ω1 = Wd.sym S0 H0 M (a ++ b) ∧ R r (Wd.sym S0 H0 M b) δ1) : EE P w te Ω δ R := fun σ S H g Q q =>
  h σ S H g _ fun v r Ω1 δ1 S1 H1 ⟨S0, H0, M, a, b, e, k⟩ g1 s1 o1 => by
    subst e
    obtain ⟨g2, s2⟩ := g1.forget
    exact q v r _ δ1 S1 H1 k g2 (s1.trans s2) o1
theorem ee_perm {cs' : Cells} (hp : cs.Perm cs') (h : EE P w te (Wd.sym S0 H0 M cs') δ R) : EE P w te (Wd.sym S0 H0 M cs) δ R := fun σ S H g Q q => by
  obtain ⟨g1, s1⟩ := g.perm hp
  exact h σ S H g1 Q fun v r Ω' δ' S' H' x y z => q v r Ω' δ' S' H' x y (s1.trans z)
end
end D
set_option Elab.async false
set_option linter.all false
set_option maxRecDepth 100000
set_option maxHeartbeats 4000000
set_option autoImplicit false
/-! Comprehensions whose turns change the world; a pair stored at once. -/
namespace D
open PySem PySem.Spec PyProof.Rows L2
section
variable {P : Program} {w : World} {K : PySem.W.Frag} {Ω Ω1 Ω2 : Wd} {δ : List AS} {σ : L2.St} {S H : Hp} {R : KR} {RN : List PyData → Wd → List AS → Prop} {ta tb te : TE} {tt tu : TT} {wi : TI} {g : TG} {vs : List Nat} {p : Po}
theorem Good.unwipeG {δt : List AS} {σt : L2.St} {S2 H2 : Hp} (g : Good P w Ω δ σ S H) (gt : Good P w Ω2 δt σt S2 H2) (e : Same S S2) (hd : ∀ i, i ∉ vs → δt[i]? = δ[i]?) (hs : ∀ i, i ∉ vs → σt[i]? = σ[i]?) (hn : NotMine δ vs) : Good P w Ω2 δ σ S2 H2 where
  sub := gt.sub
  wld := gt.wld
  fok := gt.fok
  len := g.len
  slot := fun i a q => by
    by_cases hv : i ∈ vs
    · have m := hn i hv a q
      have z := g.slot i a q
      cases a with
      | un => trivial
      | raw v => exact z
      | dat d => obtain ⟨v, q1, q2⟩ := z; exact ⟨v, q1, q2.mono e⟩
      | own ds => cases m
      | dic ds => cases m
    · rw [← hs i hv]
      exact gt.slot i a ((hd i hv).trans q)
  dist := g.dist
theorem en_lcG (h : ES P w wi Ω δ fun ds Ω1 δ1 => NotMine δ1 vs ∧ ds.length < sizeLine ∧ ∃ I : Nat → Wd → List PyData → Prop, I 0 Ω1 [] ∧
    (∀ i d Ω' acc, ds[i]? = some d → I i Ω' acc → ∃ ups, GS g d ups ∧ (∀ u ∈ ups, u.1 ∈ vs) ∧ ET P w tt Ω' (setD (wipeD δ1 vs) ups) fun b Ω2 δ2 => δ2 = setD (wipeD δ1 vs) ups ∧
      (b = true → EE P w te Ω2 δ2 fun r Ω3 δ3 => δ3 = setD (wipeD δ1 vs) ups ∧ ∃ e, r = .dat e ∧ I (i + 1) Ω3 (acc ++ [e])) ∧ (b = false → I (i + 1) Ω2 acc)) ∧
    ∀ Ω' acc, acc.length ≤ ds.length → I ds.length Ω' acc → RN acc Ω' δ1) : EN P w (tLc wi g tt te vs) Ω δ RN := fun σ S H gd Q q =>
  h σ S H gd _ fun J ds Ω1 δ1 S1 H1 h1 g1 s1 wk => fun Da hD => by
    obtain ⟨hn, hz, I, i0, turn, fin⟩ := h1
    have hT0 : ¬ Tch Ω1 δ1 σ Da := g1.notTch hD
    refine ⟨fun i m H' => m = ds.length - i ∧ i ≤ ds.length ∧ ∃ Ω' S' xs acc, I i Ω' acc ∧ acc.length ≤ i ∧ Good P w Ω' δ1 σ S' H' ∧ Step Ω1 δ1 σ S1 H1 Ω' δ1 σ S' H' ∧ ¬ Tch Ω' δ1 σ Da ∧ H' Da = some (.lst xs) ∧ S' Da = none ∧ DqAll S' xs acc,
      ⟨_, rfl, Nat.zero_le _, Ω1, S1, [], [], i0, Nat.zero_le _, g1.new' hD, Step.new' hD, hT0, upd_same, g1.sub.free hD, .nil⟩, ?_⟩
    rintro i m H' ⟨rfl, hi, Ω', S', xs, acc, hI, hacc, g', s', hTc, hl, hS, hd⟩
    by_cases hlt : i < ds.length
    · obtain ⟨go, yl⟩ := wk.go Ω' δ1 σ S' H' g' s'.same i hlt
      refine .inr ⟨go, fun H2 => ∃ Ω2 S2 xs acc, I (i + 1) Ω2 acc ∧ acc.length ≤ i + 1 ∧ Good P w Ω2 δ1 σ S2 H2 ∧ Step Ω1 δ1 σ S1 H1 Ω2 δ1 σ S2 H2 ∧ ¬ Tch Ω2 δ1 σ Da ∧ H2 Da = some (.lst xs) ∧ S2 Da = none ∧ DqAll S2 xs acc, fun H2 a => ⟨_, by omega, rfl, hlt, a⟩, fun x H2 y => ?_⟩
      obtain ⟨S2, d, g2, s2, hd2, hx⟩ := yl x H2 y
      obtain ⟨k1, k2, k3⟩ := s2.keep Da _ hl hTc
      obtain ⟨ups, hg, hu, hb⟩ := turn i d Ω' acc hd2 hI
      obtain ⟨gw, sw⟩ := g2.wipe vs
      refine hg S2 H2 (wipe σ vs) x _ g2.sub hx fun us hus => ?_
      obtain ⟨g3, s3⟩ := Good.sets gw hus
      have keys : ∀ u ∈ us, u.1 ∈ vs := fun u hu2 => by
        have : u.1 ∈ ups.map (·.1) := by
          rw [← upOk_keys hus]
          exact List.mem_map_of_mem hu2
        obtain ⟨z, z1, z2⟩ := List.mem_map.mp this
        rw [← z2]
        exact hu z z1
      have offD : ∀ j, j ∉ vs → (setD (wipeD δ1 vs) ups)[j]? = δ1[j]? := fun j hj => by
        rw [setD_off ups _ (fun z hz (e : z.1 = j) => hj (by rw [← e]; exact hu z hz)), wipeD_off hj]
      have offV : ∀ j, j ∉ vs → (setV (wipe σ vs) us)[j]? = σ[j]? := fun j hj => by
        rw [setV_off us _ (fun z hz (e : z.1 = j) => hj (by rw [← e]; exact keys z hz)), wipe_off hj]
      refine ⟨wipe_eq (by rw [setV_len, wipe_length]) offV, ?_⟩
      -- what a state behind the block says
      have back : ∀ {Ω4 : Wd} {S4 H4 : Hp}, Good P w Ω4 (setD (wipeD δ1 vs) ups) (setV (wipe σ vs) us) S4 H4 → Step Ω' (setD (wipeD δ1 vs) ups) (setV (wipe σ vs) us) S2 H2 Ω4 (setD (wipeD δ1 vs) ups) (setV (wipe σ vs) us) S4 H4 →
          Good P w Ω4 δ1 σ S4 H4 ∧ Step Ω' δ1 σ S2 H2 Ω4 δ1 σ S4 H4 := fun {Ω4 S4 H4} g4 s4 =>
        ⟨g2.unwipeG g4 s4.same offD offV hn, s4.same, fun b o hb n => by
          have st := (sw.trans s3).trans s4
          obtain ⟨z1, z2, z3⟩ := st.keep b o hb n
          exact ⟨z1, z2, fun t => z3 (t.imp id fun ⟨j, m⟩ => ⟨j, mine_off offD offV hn m⟩)⟩, s4.dom⟩
      refine hb _ S2 H2 g3 _ fun b Ω4 δ4 S4 H4 h4 g4 s4 => ?_
      obtain ⟨rfl, hyes, hno⟩ := h4
      obtain ⟨g5, s5⟩ := back g4 s4
      obtain ⟨l1, l2, l3⟩ := s5.keep Da _ k1 k3
      cases b with
      | false =>
        rw [if_neg Bool.false_ne_true]
        exact ⟨Ω4, S4, xs, acc, hno rfl, Nat.le_succ_of_le hacc, g5, (s'.trans s2).trans s5, l3, l1, l2.trans (k2.trans hS), (hd.mono s2.same).mono s5.same⟩
      | true =>
        rw [if_pos rfl]
        refine hyes rfl _ S4 H4 g4 _ fun y r Ω6 δ6 S6 H6 h6 g6 s6 o6 => ?_
        obtain ⟨rfl, e, rfl, hI6⟩ := h6
        obtain ⟨g7, s7⟩ := back g6 (s4.trans s6)
        obtain ⟨m1, m2, m3⟩ := s7.keep Da _ k1 k3
        have hS6 : S6 Da = none := m2.trans (k2.trans hS)
        have hd6 : DqAll S6 xs acc := (hd.mono s2.same).mono s7.same
        have st := (s'.trans s2).trans s7
        refine ⟨xs, m1, ?_, Ω6, S6, _, acc ++ [e], hI6, by rw [List.length_append, List.length_singleton]; omega, g7.other hS6 m3, ⟨st.same, fun b o hb n => ?_, fun b o hb => ?_⟩, m3, upd_same, hS6, hd6.append (.cons o6 .nil)⟩
        · rw [hd6.length]
          omega
        · obtain ⟨z1, z2, z3⟩ := st.keep b o hb n
          exact ⟨(upd_ne (ne_of_none hb hD)).trans z1, z2, z3⟩
        · obtain ⟨u, z⟩ := st.dom b o hb
          exact ⟨u, (upd_ne (ne_of_none hb hD)).trans z⟩
    · have e : i = ds.length := by omega
      subst e
      refine .inl ⟨wk.stop Ω' δ1 σ S' H' g' s'.same, ?_⟩
      exact q Da xs acc Ω' δ1 S' H' (fin Ω' acc hacc hI) g' (s1.trans s') (s1.back hD) hl hS hTc hd
/-- .. over xs -/
theorem en_lcX {α : Type} (xs : List α) (e : α → PyData) (I : List α → Wd → List PyData → Prop) (h : ES P w wi Ω δ fun ds Ω1 δ1 => ds = xs.map e ∧ nmB δ1 vs = true ∧ xs.length < sizeLine ∧ I xs Ω1 [] ∧
    (∀ pre x r Ω' acc, xs = pre ++ x :: r → acc.length ≤ pre.length → I (x :: r) Ω' acc → ∃ ups, GS g (e x) ups ∧ insB ups vs = true ∧ ET P w tt Ω' (setD (wipeD δ1 vs) ups) fun b Ω2 δ2 => δ2 = setD (wipeD δ1 vs) ups ∧
      (b = true → EE P w te Ω2 (setD (wipeD δ1 vs) ups) fun r' Ω3 δ3 => δ3 = setD (wipeD δ1 vs) ups ∧ ∃ d, r' = .dat d ∧ I r Ω3 (acc ++ [d])) ∧ (b = false → I r Ω2 acc)) ∧
    ∀ Ω' acc, acc.length ≤ xs.length → I [] Ω' acc → RN acc Ω' δ1) : EN P w (tLc wi g tt te vs) Ω δ RN :=
  en_lcG (h.imp fun ds Ω1 δ1 ⟨h1, h2, h3, h4, h5, h6⟩ => by
    subst h1
    refine ⟨nm_of h2, by rw [List.length_map]; exact h3, fun i Ω' acc => acc.length ≤ i ∧ I (xs.drop i) Ω' acc, ⟨Nat.le_refl _, h4⟩, fun i d Ω' acc hd ⟨hal, hI⟩ => ?_, fun Ω' acc hl ⟨_, hI⟩ => ?_⟩
    · rw [List.getElem?_map] at hd
      obtain ⟨x, hx, rfl⟩ := Option.map_eq_some_iff.mp hd
      obtain ⟨hi, hx2⟩ := List.getElem?_eq_some_iff.mp hx
      have hdrop : xs.drop i = x :: xs.drop (i + 1) := by rw [List.drop_eq_getElem_cons hi, hx2]
      have hI' : I (x :: xs.drop (i + 1)) Ω' acc := by rw [← hdrop]; exact hI
      have hlt : (xs.take i).length = i := by rw [List.length_take]; omega
      obtain ⟨ups, e1, e2, e3⟩ := h5 (xs.take i) x (xs.drop (i + 1)) Ω' acc (by rw [← hdrop, List.take_append_drop]) (by rw [hlt]; exact hal) hI'
      refine ⟨ups, e1, ins_of e2, e3.imp fun b Ω2 δ2 ⟨z1, z2, z3⟩ => ⟨z1, fun hb => ?_, fun hb => ⟨by omega, z3 hb⟩⟩⟩
      rw [z1]
      exact (z2 hb).imp fun r' Ω3 δ3 ⟨y1, d, y2, y3⟩ => ⟨y1, d, y2, by rw [List.length_append, List.length_singleton]; omega, y3⟩
    · rw [List.length_map, List.drop_length] at hI
      rw [List.length_map] at hl
      exact h6 Ω' acc hl hI)
theorem ee_ofInts : True := trivial
/-- a, b = x, y -/
theorem se_par {i j : Nat} {t : TA} (h : EA P w t Ω δ fun rs Ω1 δ1 => ∃ d e, rs = [.dat d, .dat e] ∧ p.nx Ω1 ((δ1.set i (.dat d)).set j (.dat e))) : SE P w (tPar i j t) Ω δ p := fun σ S H g D q =>
  h σ S H g _ fun vs rs Ω1 δ1 S1 H1 h1 g1 s1 o1 => by
    obtain ⟨d, e, rfl, k⟩ := h1
    obtain ⟨v, u, rfl, o2, o3⟩ := two_of o1
    refine ⟨v, u, rfl, ?_⟩
    have g2 := g1.set (i := i) (a := .dat d) (x := some v) rfl ⟨v, rfl, o2⟩
    have g3 := g2.set (i := j) (a := .dat e) (x := some u) rfl ⟨u, rfl, o3⟩
    exact q.nx _ _ _ _ _ k g3 ((s1.trans (Step.set rfl)).trans (Step.set rfl))
end
end D
set_option autoImplicit false
/-! The senses, the readings, what is made: as plain functions. -/
namespace M
inductive Sn where
  | bit (b : Nat)
  | pl (p : Nat)
deriving DecidableEq
structure Sens where
  told : List Sn
  left : List (Nat × Gate)
def Sens.get (S : Sens) (p : Nat) : Option Gate := (S.left.find? fun e => decide (e.1 = p)).map (·.2)
def Sens.num (S : Sens) (g : Gate) : Option Nat := (S.left.find? fun e => decide (e.2 = g)).map (·.1)
def Sens.isNot (S : Sens) (p : Nat) : Bool := match S.get p with
  | some g => decide (g.1 = 1) && decide (g.2.length = 1)
  | none => false
def Sens.under (S : Sens) (p : Nat) : Nat := match S.get p with
  | some g => g.2.headD 0
  | none => 0
def rtN (S : Sens) : List Sn → Nat → Nat → List Nat → Nat × List Nat
  | [], t, _, ps => (t, ps)
  | .bit b :: r, t, m, ps => rtN S r (fixN t m ps.length b) (m - 1) ps
  | .pl p :: r, t, m, ps => if S.isNot p = true then rtN S r (flipN t m ps.length) m (ps ++ [S.under p]) else rtN S r t m (ps ++ [p])
def Sens.read (S : Sens) (t : Nat) (ss : List Sn) : Nat × List Nat := rtN S ss t ss.length []
def cleanN (q : Nat × List Nat) : Nat × List Nat := hungN (unlikeN q.1 q.2 1).1 (unlikeN q.1 q.2 1).2 0
def Sens.gateLeft (S : Sens) (t : Nat) (ss : List Sn) : Bool :=
  decide (1 < (cleanN (S.read t ss)).2.length) || (decide ((cleanN (S.read t ss)).2.length = 1) && !decide ((cleanN (S.read t ss)).1 = 2))
def Sens.fin (S : Sens) (q : Nat × List Nat) : Sn × Sens :=
  if q.2.length = 0 then (.bit q.1, S)
  else if q.2.length = 1 ∧ q.1 = 2 then (.pl (q.2.headD 0), S)
  else match S.num (risingN q.1 q.2) with
    | some n => (.pl n, S)
    | none => (.pl S.told.length, { S with left := S.left ++ [(S.told.length, risingN q.1 q.2)] })
def Sens.senseOf (S : Sens) (t : Nat) (ss : List Sn) : Sn × Sens := S.fin (cleanN (S.read t ss))
def Sens.say (S : Sens) (p : Nat) : Sn := S.told.getD p (.bit 0)
def Sens.next (S : Sens) (g : Gate) : Sens :=
  { (S.senseOf g.1 (g.2.map S.say)).2 with told := S.told ++ [(S.senseOf g.1 (g.2.map S.say)).1] }
def initN (c : Circ) (reading : List Sn) : Sens := c.gates.foldl Sens.next ⟨(List.range c.ins).map .pl ++ reading, []⟩
/-! readings -/
def marksN (c : Circ) (told : List Sn) : List (Sn × Sn) := told.zip (c.mems.map fun m => (initN c told).say m.2)
def labelN (a : Nat) (ms : List (Sn × Sn)) (m : Sn × Sn) : Sn := match m.1 with
  | .bit b => if m.2 = .bit b then .bit b else .pl (a + ms.idxOf m)
  | .pl _ => .pl (a + ms.idxOf m)
def partedN (c : Circ) (told : List Sn) : List Sn := (marksN c told).map (labelN c.ins (marksN c told))
def iterN {α : Type} (f : α → α) : Nat → α → α
  | 0, x => x
  | n + 1, x => iterN f n (f x)
def beginsN (c : Circ) : List Sn := c.mems.map fun m => .bit m.1
def widestN (c : Circ) : List Sn := iterN (partedN c) (c.mems.length * c.mems.length + c.mems.length) (beginsN c)
def sensN (c : Circ) : Sens := initN c (widestN c)
/-! what is needed -/
def askedN (c : Circ) (S : Sens) : Sn → List Sn
  | .bit _ => []
  | .pl p => if p < c.ins then [] else if p < c.first then [S.say ((c.mems.getD (p - c.ins) (0, 0)).2)] else match S.get p with
    | some g => g.2.map .pl
    | none => []
def needStep (c : Circ) (S : Sens) (q : List Sn × List Sn) : List Sn × List Sn := match q.1.getLast? with
  | none => q
  | some s => if s ∈ q.2 then (q.1.dropLast, q.2) else (q.1.dropLast ++ askedN c S s, q.2 ++ [s])
def needN (c : Circ) : List Sn := (iterN (needStep c (sensN c)) (4 * (c.first + c.gates.length + 2) + c.outs.length) (c.outs.map (sensN c).say, [])).2
/-! what is made -/
def lookL {β : Type} (l : List (Sn × β)) (s : Sn) : Option β := (l.find? fun e => decide (e.1 = s)).map (·.2)
def putL {β : Type} (l : List (Sn × β)) (s : Sn) (x : β) : List (Sn × β) :=
  if (l.any fun e => decide (e.1 = s)) = true then l.map (fun e => if e.1 = s then (e.1, x) else e) else l ++ [(s, x)]
def freshN (l : List (Sn × Nat)) (s : Sn) : Nat := (lookL l s).getD 0
def ownN (c : Circ) : List Nat := ((List.range c.mems.length).map fun i => c.ins + i).filter fun p => decide ((sensN c).say p = .pl p)
def keptN (c : Circ) : List Nat := (ownN c).filter fun p => decide (.pl p ∈ needN c)
structure Mk where
  fr : List (Sn × Nat)
  gates : List Gate
def mk0 (c : Circ) : Mk := ⟨(List.range c.ins ++ keptN c).foldl (fun l p => putL l (.pl p) l.length) [], []⟩
def mkBit (c : Circ) (m : Mk) (b : Nat) : Mk := if .bit b ∈ needN c then ⟨putL m.fr (.bit b) (c.ins + (keptN c).length + m.gates.length), m.gates ++ [(b, [])]⟩ else m
def mkLeft (c : Circ) (m : Mk) (e : Nat × Gate) : Mk := if .pl e.1 ∈ needN c then ⟨putL m.fr (.pl e.1) (c.ins + (keptN c).length + m.gates.length), m.gates ++ [(e.2.1, e.2.2.map fun o => freshN m.fr (.pl o))]⟩ else m
def mkN (c : Circ) : Mk := (sensN c).left.foldl (mkLeft c) (mkBit c (mkBit c (mk0 c) 0) 1)
def tidyN (c : Circ) : Circ where
  ins := c.ins
  mems := ((keptN c).map fun p => (c.mems.getD (p - c.ins) (0, 0)).1).zip ((keptN c).map fun p => freshN (mkN c).fr ((sensN c).say (c.mems.getD (p - c.ins) (0, 0)).2))
  gates := (mkN c).gates
  outs := c.outs.map fun p => freshN (mkN c).fr ((sensN c).say p)
end M
set_option Elab.async false
set_option linter.all false
set_option maxRecDepth 100000
set_option maxHeartbeats 4000000
set_option autoImplicit false
namespace G
open PySem PySem.Spec PyProof.Rows L2 D M
local macro_rules | `(tactic| walk_at "d1") => `(tactic| first
  | (with_reducible refine se_seq ?_)
  | (with_reducible refine se_next ?_)
  | (with_reducible refine se_set ?_)
  | (with_reducible refine se_retD ?_)
  | (with_reducible refine se_if ?_)
  | (with_reducible refine ee_lit ?_)
  | (with_reducible refine ee_int ?_)
  | (with_reducible refine ee_str ?_)
  | (with_reducible refine ee_bl ?_)
  | (with_reducible refine ee_non ?_)
  | (with_reducible refine ee_op ?_)
  | (with_reducible refine ee_tup ?_)
  | (with_reducible refine ee_cb ?_)
  | (with_reducible refine et_test ?_)
  | (with_reducible refine ea_nil ?_)
  | (with_reducible refine ea_cons ?_)
  | ((with_reducible refine' ee_dat ?e ?_); (case e => rfl))
  | ((with_reducible refine' ee_own ?e ?_); (case e => rfl))
  | ((with_reducible refine' ee_raw ?e ?_); (case e => rfl))
  | ((with_reducible refine' n_and ?ha ?hb ?_); (case ha => rfl); (case hb => rfl))
  | ((with_reducible refine' n_or ?ha ?hb ?_); (case ha => rfl); (case hb => rfl))
  | ((with_reducible refine' n_xor ?ha ?hb ?_); (case ha => rfl); (case hb => rfl))
  | ((with_reducible refine' n_add ?ha ?hb ?_); (case ha => rfl); (case hb => rfl))
  | ((with_reducible refine' n_sub ?ha ?hb ?hc ?_); (case ha => rfl); (case hb => rfl); (case hc => first | omega | assumption | decide))
  | ((with_reducible refine' n_mul ?ha ?hb ?hc ?_); (case ha => rfl); (case hb => rfl); (case hc => first | omega | assumption | decide))
  | ((with_reducible refine' n_shr ?ha ?hb ?_); (case ha => rfl); (case hb => rfl))
  | ((with_reducible refine' n_shl ?ha ?hb ?hc ?hd ?_); (case ha => rfl); (case hb => rfl); (case hc => first | omega | assumption | decide); (case hd => first | omega | assumption | decide))
  | ((with_reducible refine' n_lt ?ha ?hb ?_); (case ha => rfl); (case hb => rfl))
  | ((with_reducible refine' n_gt ?ha ?hb ?_); (case ha => rfl); (case hb => rfl))
  | ((with_reducible refine' n_eq ?ha ?hb ?_); (case ha => rfl); (case hb => rfl))
  | ((with_reducible refine' n_ne ?ha ?hb ?_); (case ha => rfl); (case hb => rfl))
  | (with_reducible refine ⟨_, rfl, ?_⟩)
  | (with_reducible refine ⟨_, _, rfl, ?_⟩)
  | (with_reducible refine ⟨_, _, _, rfl, ?_⟩)
  | (with_reducible refine ⟨_, _, _, _, rfl, ?_⟩)
  | exact ⟨rfl, _, rfl, rfl⟩)
local macro_rules | `(tactic| walk_at "d") => `(tactic| (repeat (walk_at "d1")))
section
variable {P : Program} {w : World} {K : PySem.W.Frag} {mg : Str → Option Value} {base : Heap}
/-! encodings -/
abbrev sPl : Str := "place"
abbrev sBit : Str := "bit"
def enS : Sn → PyData
  | .bit b => .tuple [.str "bit", nI b]
  | .pl p => .tuple [.str "place", nI p]
def kS : Sn → List NK
  | .bit b => [.text "bit", .num b]
  | .pl p => [.text "place", .num p]
def kG (g : Gate) : List NK := [.num g.1, .tup (g.2.map fun (p : Nat) => .num (p : Int))]
theorem enS_k (s : Sn) : enS s = .tuple (NestedKey.datas (kS s)) := by
  cases s <;> simp [enS, kS, NestedKey.datas, NestedKey.data]
theorem datas_nums : ∀ ps : List Nat, NestedKey.datas (ps.map fun (p : Nat) => NestedKey.num (p : Int)) = ps.map nI
  | [] => rfl
  | p :: ps => by
    rw [List.map_cons, List.map_cons, NestedKey.datas, datas_nums ps, NestedKey.data]
theorem enG_k (g : Gate) : enG g = .tuple (NestedKey.datas (kG g)) := by
  simp [enG, kG, NestedKey.datas, NestedKey.data, datas_nums]
theorem depths_nums : ∀ ps : List Nat, NestedKey.depthAll (ps.map fun (p : Nat) => NestedKey.num (p : Int)) = 0
  | [] => rfl
  | p :: ps => by
    rw [List.map_cons, NestedKey.depthAll, depths_nums ps, NestedKey.depth]
    rfl
theorem kS_depth (s : Sn) : (NestedKey.tup (kS s)).depth ≤ 8 := by
  cases s <;> simp [kS, NestedKey.depth, NestedKey.depthAll]
theorem kG_depth (g : Gate) : (NestedKey.tup (kG g)).depth ≤ 8 := by
  simp [kG, NestedKey.depth, NestedKey.depthAll, depths_nums]
theorem bit_ne : ¬ (Str.ofString "bit" = Str.ofString "place") := by decide
theorem place_ne : ¬ (Str.ofString "place" = Str.ofString "bit") := by decide
theorem kS_inj {s t : Sn} (h : kS s = kS t) : s = t := by
  cases s <;> cases t <;> simp [kS, bit_ne, place_ne] at h <;> rw [Int.ofNat_inj.mp h]
theorem nums_inj : ∀ {ps qs : List Nat}, (ps.map fun (p : Nat) => NestedKey.num (p : Int)) = (qs.map fun (p : Nat) => NestedKey.num (p : Int)) → ps = qs
  | [], [], _ => rfl
  | [], _ :: _, h => by simp at h
  | _ :: _, [], h => by simp at h
  | p :: ps, q :: qs, h => by
    rw [List.map_cons, List.map_cons] at h
    injection h with h1 h2
    injection h1 with h1
    rw [Int.ofNat_inj.mp h1, nums_inj h2]
theorem kG_inj {s t : Gate} (h : kG s = kG t) : s = t := by
  obtain ⟨a, ps⟩ := s
  obtain ⟨b, qs⟩ := t
  simp only [kG] at h
  injection h with h1 h2
  injection h1 with h1
  injection h2 with h2 h3
  injection h2 with h2
  rw [Int.ofNat_inj.mp h1, nums_inj h2]
theorem eqv_enS (s t : Sn) : PyData.eqv (enS s) (enS t) = decide (s = t) := by
  cases s with
  | bit b =>
    cases t with
    | bit c =>
      show PyData.eqv (.tuple _) (.tuple _) = _
      rw [eqv_tup, eqvAll_cons, eqvAll_cons, eqvAll_nil, eqv_nI, eqv_str]
      by_cases h : b = c <;> simp [h]
    | pl c =>
      show PyData.eqv (.tuple _) (.tuple _) = _
      rw [eqv_tup, eqvAll_cons, eqv_str]
      simp [bit_ne, place_ne]
  | pl b =>
    cases t with
    | bit c =>
      show PyData.eqv (.tuple _) (.tuple _) = _
      rw [eqv_tup, eqvAll_cons, eqv_str]
      simp [bit_ne, place_ne]
    | pl c =>
      show PyData.eqv (.tuple _) (.tuple _) = _
      rw [eqv_tup, eqvAll_cons, eqvAll_cons, eqvAll_nil, eqv_nI, eqv_str]
      by_cases h : b = c <;> simp [h]
theorem sh_enS (s : Sn) : SeqAt.shaped (enS s) = true := by
  have h1 : ∀ (x : Str) (n : Nat), SeqAt.shaped (.str x) = true → SeqAt.shaped (.tuple [.str x, nI n]) = true := fun x n h => by
    unfold SeqAt.shaped at h ⊢
    simp [PyData.canLay0, PyData.canLayAll0, PyData.depth, PyData.depthAll] at h ⊢
    exact h
  cases s
  · exact h1 _ _ sh_bit
  · exact h1 _ _ sh_place
/-! the senses in the heap -/
abbrev enL (e : Nat × Gate) : Int × PyData := ((e.1 : Int), enG e.2)
abbrev enK (e : Nat × Gate) : NK × PyData := (.tup (kG e.2), nI e.1)
structure KS (K : PySem.W.Frag) (CS : Addr) : Prop where
  cls : Cls K CS
  told : NoAttr K CS "told"
  left : NoAttr K CS "left"
  known : NoAttr K CS "known"
abbrev nsS : List Str := ["told", "left", "known"]
abbrev cS0 (CS : Addr) (t l n : Addr) : Cell := .ins CS nsS [.raw (.ref t), .raw (.ref l), .raw (.ref n)]
abbrev cS1 (S : Sens) : Cell := .lst (S.told.map enS)
abbrev cS2 (S : Sens) : Cell := .dk (S.left.map enL)
abbrev cS3 (P : Program) (w : World) (n : Addr) (S : Sens) : Cell := .dic P w n (S.left.map enK)
/-- the senses S stand at a -/
structure AtS (P : Program) (w : World) (CS : Addr) (a t l n : Addr) (Z : Sens) (S H : Hp) : Prop where
  h0 : HasAt S H a (cS0 CS t l n)
  h1 : HasAt S H t (cS1 Z)
  h2 : HasAt S H l (cS2 Z)
  h3 : HasAt S H n (cS3 P w n Z)
structure HasS (P : Program) (w : World) (CS : Addr) (Ω : Wd) (a t l n : Addr) (Z : Sens) : Prop where
  h0 : Has Ω a (cS0 CS t l n)
  h1 : Has Ω t (cS1 Z)
  h2 : Has Ω l (cS2 Z)
  h3 : Has Ω n (cS3 P w n Z)
theorem AtS.old {P : Program} {w : World} {CS a t l n : Addr} {Z : Sens} {S H : Hp} {cs : Cells} (h : AtS P w CS a t l n Z S H) : HasS P w CS (Wd.sym S H [] cs) a t l n Z :=
  ⟨has_old h.h0 (by simp), has_old h.h1 (by simp), has_old h.h2 (by simp), has_old h.h3 (by simp)⟩
theorem HasS.now {P : Program} {w : World} {CS a t l n : Addr} {Z : Sens} {Ω : Wd} (h : HasS P w CS Ω a t l n Z) (S H : Hp) (e : Same S H) (hw : Ω.W S H) : AtS P w CS a t l n Z S H :=
  ⟨h.h0 S H e hw, h.h1 S H e hw, h.h2 S H e hw, h.h3 S H e hw⟩
theorem dkGet_left (l : List (Nat × Gate)) (p : Nat) : dkGet (l.map enL) (p : Int) = ((l.find? fun e => decide (e.1 = p)).map (·.2)).map enG := by
  induction l with
  | nil => rfl
  | cons e l ih =>
    by_cases h : e.1 = p
    · simp [dkGet, List.find?_cons, h]
    · have h' : ¬ ((e.1 : Int) = (p : Int)) := by omega
      simp only [dkGet, List.map_cons, List.find?_cons, decide_eq_false h, decide_eq_false h'] at ih ⊢
      exact ih
theorem lookD_known (l : List (Nat × Gate)) (g : Gate) : lookD (l.map enK) (.tup (kG g)) = ((l.find? fun e => decide (e.2 = g)).map (·.1)).map nI := by
  induction l with
  | nil => rfl
  | cons e l ih =>
    by_cases h : e.2 = g
    · simp [lookD, List.find?_cons, h]
    · have h' : ¬ (NestedKey.tup (kG e.2) = NestedKey.tup (kG g)) := fun z => h (kG_inj (by injection z))
      simp only [lookD, List.map_cons, List.find?_cons, decide_eq_false h, decide_eq_false h'] at ih ⊢
      exact ih
section
variable {Ω : Wd} {δ : List AS} {R : KR} {te : TE} {CS a t l n : Addr} {Z : Sens}
theorem ee_told (ks : KS K CS) (h : EE P w te Ω δ fun r Ω1 δ1 => ∃ a t l n Z, r = .raw (.ref a) ∧ HasS P w CS Ω1 a t l n Z ∧ R (.raw (.ref t)) Ω1 δ1) : EE P w (tFld K te "told") Ω δ R :=
  ee_f (ns := nsS) (j := 0) (by decide) (h.imp fun r Ω1 δ1 ⟨a, t, l, n, Z, e, hs, k⟩ => ⟨a, CS, _, _, e, hs.h0, ks.cls, ks.told, rfl, (fun i z => nomatch z), k⟩)
theorem ee_left (ks : KS K CS) (h : EE P w te Ω δ fun r Ω1 δ1 => ∃ a t l n Z, r = .raw (.ref a) ∧ HasS P w CS Ω1 a t l n Z ∧ R (.raw (.ref l)) Ω1 δ1) : EE P w (tFld K te "left") Ω δ R :=
  ee_f (ns := nsS) (j := 1) (by decide) (h.imp fun r Ω1 δ1 ⟨a, t, l, n, Z, e, hs, k⟩ => ⟨a, CS, _, _, e, hs.h0, ks.cls, ks.left, rfl, (fun i z => nomatch z), k⟩)
theorem ee_known (ks : KS K CS) (h : EE P w te Ω δ fun r Ω1 δ1 => ∃ a t l n Z, r = .raw (.ref a) ∧ HasS P w CS Ω1 a t l n Z ∧ R (.raw (.ref n)) Ω1 δ1) : EE P w (tFld K te "known") Ω δ R :=
  ee_f (ns := nsS) (j := 2) (by decide) (h.imp fun r Ω1 δ1 ⟨a, t, l, n, Z, e, hs, k⟩ => ⟨a, CS, _, _, e, hs.h0, ks.cls, ks.known, rfl, (fun i z => nomatch z), k⟩)
theorem ee_leftAt {ty : TE} (ks : KS K CS) (h : EE P w te Ω δ fun r Ω1 δ1 => ∃ a t l n Z, r = .raw (.ref a) ∧ HasS P w CS Ω1 a t l n Z ∧ EE P w ty Ω1 δ1 fun r2 Ω2 δ2 => ∃ p g, r2 = .dat (nI p) ∧ Ω2 = Ω1 ∧ Z.get p = some g ∧ R (.dat (enG g)) Ω2 δ2) : EE P w (tDGet (tFld K te "left") ty) Ω δ R :=
  ee_dget (ee_left ks (h.imp fun r Ω1 δ1 ⟨a, t, l, n, Z, e, hs, k⟩ => ⟨a, t, l, n, Z, e, hs, l, rfl, k.imp fun r2 Ω2 δ2 ⟨p, g, e2, e3, hg, z⟩ => ⟨(p : Int), Z.left.map enL, enG g, e2, by rw [e3]; exact hs.h2, by rw [dkGet_left]; exact (by rw [show (List.find? (fun e => decide (e.1 = p)) Z.left).map (·.2) = some g from hg]; rfl), z⟩⟩))
theorem ee_inLeft {ty : TE} (ks : KS K CS) (h : EE P w ty Ω δ fun r Ω1 δ1 => EE P w te Ω1 δ1 fun r2 Ω2 δ2 => ∃ p a t l n Z, r = .dat (nI p) ∧ r2 = .raw (.ref a) ∧ HasS P w CS Ω2 a t l n Z ∧ R (.dat (.bool (Z.get p).isSome)) Ω2 δ2) : EE P w (tDIn ty (tFld K te "left")) Ω δ R :=
  ee_din (h.imp fun r Ω1 δ1 k => ee_left ks (k.imp fun r2 Ω2 δ2 ⟨p, a, t, l, n, Z, e1, e2, hs, z⟩ => ⟨a, t, l, n, Z, e2, hs, l, (p : Int), Z.left.map enL, rfl, e1, hs.h2, by
    rw [dkGet_left, Option.isSome_map]
    exact z⟩))
end

structure I_is_not where
  a : Addr
  t : Addr
  l : Addr
  n : Addr
  Z : Sens
  p : Nat
abbrev sp_is_not (P : Program) (w : World) (CS : Addr) : Sp := spR (fun i : I_is_not => [.raw (.ref i.a), .dat (nI i.p)]) (fun i S H => AtS P w CS i.a i.t i.l i.n i.Z S H ∧ (True)) (fun i d => d = (.bool (i.Z.isNot i.p)))
theorem ee_is_not {Ω : Wd} {δ : List AS} {R : KR} {te : TE} {ta : TA} {E : XK} {CS : Addr} (h : EE P w te Ω δ fun r Ω1 δ1 => ∃ a t l n Z, r = .raw (.ref a) ∧ HasS P w CS Ω1 a t l n Z ∧ EA P w ta Ω1 δ1 fun rs Ω2 δ2 => Ω2 = Ω1 ∧ ∃ i : I_is_not, i.a = a ∧ i.Z = Z ∧ rs = [.dat (nI i.p)] ∧ (True) ∧ R (.dat (.bool (i.Z.isNot i.p))) Ω2 δ2) : EE P w (tMeth CS "is_not" (sp_is_not P w CS) [] E te ta) Ω δ R :=
  ee_methR (m := "is_not") (h.imp fun r Ω1 δ1 ⟨a, t, l, n, Z, e, hs, k⟩ => ⟨a, e, mth_of hs.h0 (by decide), EA.imp k fun rs Ω2 δ2 ⟨e2, i, hia, hiZ, hrs, hp, z⟩ => ⟨⟨a, t, l, n, Z, i.p⟩, by subst hia hiZ; rw [hrs], by simp, (fun S H e3 hw => ⟨hs.now S H e3 (by rw [← e2]; exact hw), by subst hia hiZ; exact hp⟩), fun d hd => by subst hd hia hiZ; exact z⟩⟩)

abbrev N_Senses_is_not : List Str := ["self", "place"]
theorem sc_Senses_is_not : FnScope N_Senses_is_not ["self", "place"] (defScope s_Senses_is_not) := ⟨rfl, rfl, rfl, by decide +kernel, rfl, by decide +kernel, by decide +kernel⟩
theorem ok_Senses_is_not {k : Nat} {f : Addr} {fd : FuncData} (F : FnP K "is_not" "Senses.is_not" s_Senses_is_not f fd) (T : Fx mg) {CS : Addr} (ks : KS K CS) : FnOk P w K mg base CX0 (k + 1) f fd ["self", "place"] (sp_is_not P w CS) := by
  refine F.ok sc_Senses_is_not (spR_len fun _ => rfl) (fun cdv A outer s H vs Q E hr hsp => ?_)
  refine ⟨_, PSs.nox (pss_one (ps_ret (pe_and (pe_cmp (pc_din (hu_of hr) (pv 1) (pe_fld (pv 0) rfl))) (pe_and (pe_cmpR (op_eqD hr.units) (pe_ix ix_tup (pe_dget (hu_of hr) (pe_fld (pv 0) rfl) (pv 1) (fun _ _ => rfl)) pe_int (fun _ _ => rfl)) (pe_glob (v := .int 1) (by rfl) T.NOT.choose_spec ⟨_, rfl⟩) (nomark _)) (pe_one (pe_cmpR (op_eqD hr.units) (pe_callB call_len2 (by rfl) T.len PySem.boot_len (pa_cons (pe_ix ix_tup (pe_dget (hu_of hr) (pe_fld (pv 0) rfl) (pv 1) (fun _ _ => rfl)) pe_int (fun _ _ => rfl)) pa_nil)) pe_int (nomark _))))))), ?_⟩
  refine run_spR (P := P) (w := w) hsp ?_
  rintro ⟨a, t, l, n, Z, p⟩ S H ⟨hz, -⟩
  dsimp only at hz ⊢
  have hs := hz.old (cs := [])
  refine se_retD (ee_andV (ee_inLeft ks (ee_dat rfl (ee_raw rfl ⟨p, a, t, l, n, Z, rfl, rfl, hs, _, rfl, fun h1 => ?_, fun h1 => ?_⟩))))
  · obtain ⟨g, hg⟩ := Option.isSome_iff_exists.mp h1
    have e : Z.isNot p = (decide (g.1 = 1) && decide (g.2.length = 1)) := by unfold Sens.isNot; rw [hg]
    refine ee_andV (ee_op (ee_op (ee_leftAt ks (ee_raw rfl ⟨a, t, l, n, Z, rfl, hs, ee_dat rfl ⟨p, g, rfl, rfl, hg, ee_lit (n_ixT rfl rfl (ee_lit (n_eq rfl rfl ⟨_, rfl, fun h2 => ?_, fun h2 => ?_⟩)))⟩⟩))))
    · refine ee_op (ee_cb (ea_cons (ee_op (ee_leftAt ks (ee_raw rfl ⟨a, t, l, n, Z, rfl, hs, ee_dat rfl ⟨p, g, rfl, rfl, hg, ee_lit (n_ixT rfl rfl (ea_nil (cb_len (.inr rfl) ?_)))⟩⟩)))))
      rw [List.length_map]
      refine ee_lit (n_eq rfl rfl ⟨_, rfl, ⟨_, rfl⟩, _, rfl, ?_⟩)
      rw [e, h2]
      rfl
    · refine ⟨_, rfl, ⟨_, rfl⟩, _, rfl, ?_⟩
      rw [e, h2]
      rfl
  · refine ⟨_, rfl, ⟨_, rfl⟩, _, rfl, ?_⟩
    have hg : Z.get p = none := by simpa using h1
    unfold Sens.isNot
    rw [hg]

def SmallS (ss : List Sn) : Prop := ss.length ≤ 10 ∧ ∀ b, Sn.bit b ∈ ss → b < 1000000
structure I_read_through where
  a : Addr
  t : Addr
  l : Addr
  n : Addr
  Z : Sens
  tb : Nat
  ss : List Sn
abbrev sp_read_through (P : Program) (w : World) (CS : Addr) : Sp := spR (fun i : I_read_through => [.raw (.ref i.a), .dat (nI i.tb), .dat (.list (i.ss.map enS))]) (fun i S H => AtS P w CS i.a i.t i.l i.n i.Z S H ∧ (SmallS i.ss)) (fun i d => d = (.tuple [nI (i.Z.read i.tb i.ss).1, nL (i.Z.read i.tb i.ss).2]))
theorem ee_read_through {Ω : Wd} {δ : List AS} {R : KR} {te : TE} {ta : TA} {E : XK} {CS : Addr} (h : EE P w te Ω δ fun r Ω1 δ1 => ∃ a t l n Z, r = .raw (.ref a) ∧ HasS P w CS Ω1 a t l n Z ∧ EA P w ta Ω1 δ1 fun rs Ω2 δ2 => Ω2 = Ω1 ∧ ∃ i : I_read_through, i.a = a ∧ i.Z = Z ∧ rs = [.dat (nI i.tb), .dat (.list (i.ss.map enS))] ∧ (SmallS i.ss) ∧ R (.dat (.tuple [nI (i.Z.read i.tb i.ss).1, nL (i.Z.read i.tb i.ss).2])) Ω2 δ2) : EE P w (tMeth CS "read_through" (sp_read_through P w CS) [] E te ta) Ω δ R :=
  ee_methR (h.imp fun r Ω1 δ1 ⟨a, t, l, n, Z, e, hs, k⟩ => ⟨a, e, mth_of hs.h0 (by decide), EA.imp k fun rs Ω2 δ2 ⟨e2, i, hia, hiZ, hrs, hp, z⟩ => ⟨⟨a, t, l, n, Z, i.tb, i.ss⟩, by subst hia hiZ; rw [hrs], by simp, (fun S H e3 hw => ⟨hs.now S H e3 (by rw [← e2]; exact hw), by subst hia hiZ; exact hp⟩), fun d hd => by subst hd hia hiZ; exact z⟩⟩)

abbrev N_Senses_read_through : List Str := ["self", "table", "senses", "places", "many", "word", "worth"]
theorem sc_Senses_read_through : FnScope N_Senses_read_through ["self", "table", "senses"] (defScope s_Senses_read_through) := ⟨rfl, rfl, rfl, by decide +kernel, rfl, by decide +kernel, by decide +kernel⟩
theorem ok_Senses_read_through {k : Nat} {f : Addr} {fd : FuncData} (F : FnP K "read_through" "Senses.read_through" s_Senses_read_through f fd) (T : Fx mg) {CS : Addr} (ks : KS K CS) (c_Senses_is_not : CalM P w K mg base k CS "is_not" ["self", "place"] (sp_is_not P w CS)) (c_fixed : Cal P w K mg base k "fixed" ["table", "many", "k", "bit"] sp_fixed) (c_flipped : Cal P w K mg base k "flipped" ["table", "many", "k"] sp_flipped) : FnOk P w K mg base CX0 (k + 1) f fd ["self", "table", "senses"] (sp_read_through P w CS) := by
  refine F.ok sc_Senses_read_through (spR_len fun _ => rfl) (fun cdv A outer s H vs Q E hr hsp => ?_)
  refine ⟨_, PSs.nox (pss_cons (ps_set (i := 3) sc_Senses_read_through.nd rfl (Or.inl rfl) (pe_lst pa_nil))
    (pss_cons (ps_set (i := 4) sc_Senses_read_through.nd rfl (Or.inl rfl) (pe_callB call_len2 (by rfl) T.len PySem.boot_len (pa_cons (pv 2) pa_nil)))
    (pss_cons (ps_for PassesOwn.never rfl (pi_list (pv 2)) (pg_tup rfl (pgs_cons (pg_name (i := 5) sc_Senses_read_through.nd rfl (Or.inl rfl)) (pgs_cons (pg_name (i := 6) sc_Senses_read_through.nd rfl (Or.inl rfl)) pgs_nil)))
    (pss_one (ps_if (pt_cmpR (op_eqD hr.units) (pv 5) pe_str (nomark _))
    (pss_cons (ps_set (i := 1) sc_Senses_read_through.nd rfl (Or.inl rfl) (pe_cal c_fixed hr (by rfl) (pa_cons (pv 1) (pa_cons (pv 4) (pa_cons (pe_callB call_len2 (by rfl) T.len PySem.boot_len (pa_cons (pv 3) pa_nil)) (pa_cons (pv 6) pa_nil))))))
    (pss_one (ps_aug (i := 4) sc_Senses_read_through.nd rfl (Or.inl rfl) pe_int ip_sub)))
    (pss_one (ps_if (pt_val (pe_mcal (pv 0) c_Senses_is_not hr (pa_cons (pv 6) pa_nil)))
    (pss_cons (ps_set (i := 1) sc_Senses_read_through.nd rfl (Or.inl rfl) (pe_cal c_flipped hr (by rfl) (pa_cons (pv 1) (pa_cons (pv 4) (pa_cons (pe_callB call_len2 (by rfl) T.len PySem.boot_len (pa_cons (pv 3) pa_nil)) pa_nil)))))
    (pss_one (ps_expr (pe_bm PySem.F.plainAttrs_list PySem.F.slot_list_append PySem.F.type_list_append mt_append (pv 3) (pa_cons (pe_ix ix_tup (pe_ix ix_tup (pe_dget (hu_of hr) (pe_fld (pv 0) rfl) (pv 6) (fun _ _ => rfl)) pe_int (fun _ _ => rfl)) pe_int (fun _ _ => rfl)) pa_nil)))))
    (pss_one (ps_expr (pe_bm PySem.F.plainAttrs_list PySem.F.slot_list_append PySem.F.type_list_append mt_append (pv 3) (pa_cons (pv 6) pa_nil)))))))))
    (pss_one (ps_ret (pe_tup (pa_cons (pv 1) (pa_cons (pv 3) pa_nil)))))))), ?_⟩
  refine run_spR (P := P) (w := w) hsp ?_
  rintro ⟨a, t, l, n, Z, tb, ss⟩ S H ⟨hz, h1, h2⟩
  dsimp only at hz h1 h2 ⊢
  have hs : ∀ cs, HasS P w CS (Wd.sym S H [] cs) a t l n Z := fun cs => hz.old (cs := cs)
  refine se_seq (se_setN (en_lst (ea_nil ⟨[], rfl, by decide, (by show (3 : Nat) < 7; decide), ?_⟩)))
  refine se_seq (se_set (ee_cb (ea_cons (ee_dat rfl (ea_nil (cb_len (.inl rfl) ⟨_, rfl, ?_⟩))))))
  rw [List.length_map]
  refine se_seq (se_forX ss enS (fun r Ω' δ' => Ω' = Wd.sym S H [] [] ∧ ∃ (tb' m : Nat) (ps : List Nat) (x y : AS), rtN Z r tb' m ps = Z.read tb ss ∧ m = ps.length + r.length ∧ m ≤ 10 ∧ δ' = [.raw (.ref a), .dat (nI tb'), .dat (.list (ss.map enS)), .own (ps.map nI), .dat (nI m), x, y]) (es_list (ee_dat rfl ⟨_, rfl, rfl, ⟨rfl, tb, ss.length, [], .un, .un, rfl, by simp, h1, rfl⟩, ?_, ?_⟩)))
  · rintro pre x r Ω' δ' hx ⟨rfl, tb', m, ps, y, z, hr, hm, hm10, rfl⟩
    have hmem : x ∈ ss := by rw [hx]; simp
    rw [List.length_cons] at hm
    cases x with
    | bit b =>
      have hb := h2 b hmem
      refine ⟨_, gs_tup2, ?_⟩
      refine se_if (et_test (ee_op (ee_dat rfl (ee_str (n_eqS sh_bit sh_bit ⟨_, rfl, fun _ => ?_, fun h => by simp at h⟩)))))
      refine se_seq (se_set (ee_fixed (ea_cons (ee_dat rfl (ea_cons (ee_dat rfl (ea_cons (ee_cb (ea_cons (ee_own rfl (ea_nil ?_)))))))))))
      refine cb_len (ds := ps.map nI) (.inl rfl) ?_
      rw [List.length_map]
      refine ea_cons (ee_dat rfl (ea_nil ⟨_, _, _, _, rfl, ⟨by omega, hm10, by omega, hb⟩, _, rfl, ?_⟩))
      refine se_aug rfl (ee_lit ⟨_, rfl, rfl, fixN tb' m ps.length b, m - 1, ps, .dat (.str "bit"), .dat (nI b), hr, by omega, by omega, ?_⟩)
      have e : ((m - 1 : Nat) : Int) = (m : Int) - 1 := by omega
      rw [show nI (m - 1) = .int ((m : Int) - 1) from congrArg PyData.int e]
      rfl
    | pl q =>
      refine ⟨_, gs_tup2, ?_⟩
      refine se_if (et_test (ee_op (ee_dat rfl (ee_str (n_eqS sh_place sh_bit ⟨_, rfl, fun h => by simp [place_ne] at h, fun _ => ?_⟩)))))
      refine se_if (et_val (ee_is_not (ee_raw rfl ⟨a, t, l, n, Z, rfl, hs [], ea_cons (ee_dat rfl (ea_nil ⟨rfl, ⟨a, t, l, n, Z, q⟩, rfl, rfl, rfl, trivial, _, rfl, fun hn => ?_, fun hn => ?_⟩))⟩)))
      · have hg : ∃ g, Z.get q = some g ∧ ∃ u, g.2 = [u] := by
          unfold Sens.isNot at hn
          cases e : Z.get q with
          | none => rw [e] at hn; simp at hn
          | some g =>
            rw [e] at hn
            obtain ⟨_, h4⟩ := Bool.and_eq_true_iff.mp hn
            obtain ⟨u, hu⟩ := List.length_eq_one_iff.mp (of_decide_eq_true h4)
            exact ⟨g, rfl, u, hu⟩
        obtain ⟨g, hg, u, hu⟩ := hg
        have hun : Z.under q = u := by unfold Sens.under; rw [hg]; simp [hu]
        refine se_seq (se_set (ee_flipped (ea_cons (ee_dat rfl (ea_cons (ee_dat rfl (ea_cons (ee_cb (ea_cons (ee_own rfl (ea_nil ?_)))))))))))
        refine cb_len (ds := ps.map nI) (.inl rfl) ?_
        rw [List.length_map]
        refine ea_nil ⟨_, _, _, rfl, ⟨hm10, by omega⟩, _, rfl, ?_⟩
        refine se_append rfl (ee_op (ee_op (ee_leftAt ks (ee_raw rfl ⟨a, t, l, n, Z, rfl, hs [], ee_dat rfl ⟨q, g, rfl, rfl, hg, ee_lit (n_ixT rfl rfl ?_)⟩⟩))))
        rw [hu]
        refine ee_lit (n_ixT rfl rfl ⟨_, ps.map nI, rfl, rfl, ?_, rfl, flipN tb' m ps.length, m, ps ++ [u], .dat (.str "place"), .dat (nI q), ?_, ?_, hm10, ?_⟩)
        · rw [List.length_map]
          exact Nat.lt_of_le_of_lt (show ps.length ≤ 10 by omega) (by decide)
        · rw [← hr, rtN, if_pos hn, hun]
        · rw [List.length_append, List.length_singleton]; omega
        · rw [List.map_append]; rfl
      · refine se_append rfl (ee_dat rfl ⟨_, ps.map nI, rfl, rfl, ?_, rfl, tb', m, ps ++ [q], .dat (.str "place"), .dat (nI q), ?_, ?_, hm10, ?_⟩)
        · rw [List.length_map]
          exact Nat.lt_of_le_of_lt (show ps.length ≤ 10 by omega) (by decide)
        · rw [← hr, rtN, if_neg (by rw [hn]; decide)]
        · rw [List.length_append, List.length_singleton]; omega
        · rw [List.map_append]; rfl
  · rintro Ω' δ' ⟨rfl, tb', m, ps, x, y, hr, hm, hm10, rfl⟩
    refine se_freeze (i := 3) rfl (se_retD (ee_tup (ea_cons (ee_dat rfl (ea_cons (ee_dat rfl (ea_nil ⟨[_, _], rfl, (by show 2 ≤ sizeLine; decide), _, rfl, ⟨_, rfl⟩, _, rfl, ?_⟩)))))))
    rw [← hr, rtN]

end
end G
set_option Elab.async false
set_option linter.all false
set_option maxRecDepth 100000
set_option maxHeartbeats 4000000
set_option autoImplicit false
namespace G
open PySem PySem.Spec PyProof.Rows L2 D M
local macro_rules | `(tactic| walk_at "d1") => `(tactic| first
  | (with_reducible refine se_seq ?_)
  | (with_reducible refine se_next ?_)
  | (with_reducible refine se_set ?_)
  | (with_reducible refine se_retD ?_)
  | (with_reducible refine se_if ?_)
  | (with_reducible refine ee_lit ?_)
  | (with_reducible refine ee_int ?_)
  | (with_reducible refine ee_str ?_)
  | (with_reducible refine ee_bl ?_)
  | (with_reducible refine ee_non ?_)
  | (with_reducible refine ee_op ?_)
  | (with_reducible refine ee_tup ?_)
  | (with_reducible refine ee_cb ?_)
  | (with_reducible refine et_test ?_)
  | (with_reducible refine ea_nil ?_)
  | (with_reducible refine ea_cons ?_)
  | ((with_reducible refine' ee_dat ?e ?_); (case e => rfl))
  | ((with_reducible refine' ee_own ?e ?_); (case e => rfl))
  | ((with_reducible refine' ee_raw ?e ?_); (case e => rfl))
  | ((with_reducible refine' n_and ?ha ?hb ?_); (case ha => rfl); (case hb => rfl))
  | ((with_reducible refine' n_or ?ha ?hb ?_); (case ha => rfl); (case hb => rfl))
  | ((with_reducible refine' n_xor ?ha ?hb ?_); (case ha => rfl); (case hb => rfl))
  | ((with_reducible refine' n_add ?ha ?hb ?_); (case ha => rfl); (case hb => rfl))
  | ((with_reducible refine' n_sub ?ha ?hb ?hc ?_); (case ha => rfl); (case hb => rfl); (case hc => first | omega | assumption | decide))
  | ((with_reducible refine' n_mul ?ha ?hb ?hc ?_); (case ha => rfl); (case hb => rfl); (case hc => first | omega | assumption | decide))
  | ((with_reducible refine' n_shr ?ha ?hb ?_); (case ha => rfl); (case hb => rfl))
  | ((with_reducible refine' n_shl ?ha ?hb ?hc ?hd ?_); (case ha => rfl); (case hb => rfl); (case hc => first | omega | assumption | decide); (case hd => first | omega | assumption | decide))
  | ((with_reducible refine' n_lt ?ha ?hb ?_); (case ha => rfl); (case hb => rfl))
  | ((with_reducible refine' n_gt ?ha ?hb ?_); (case ha => rfl); (case hb => rfl))
  | ((with_reducible refine' n_eq ?ha ?hb ?_); (case ha => rfl); (case hb => rfl))
  | ((with_reducible refine' n_ne ?ha ?hb ?_); (case ha => rfl); (case hb => rfl))
  | (with_reducible refine ⟨_, rfl, ?_⟩)
  | (with_reducible refine ⟨_, _, rfl, ?_⟩)
  | (with_reducible refine ⟨_, _, _, rfl, ?_⟩)
  | (with_reducible refine ⟨_, _, _, _, rfl, ?_⟩)
  | exact ⟨rfl, _, rfl, rfl⟩)
local macro_rules | `(tactic| walk_at "d") => `(tactic| (repeat (walk_at "d1")))
section
variable {P : Program} {w : World} {K : PySem.W.Frag} {mg : Str → Option Value} {base : Heap}
theorem unlike_len (t : Nat) (ps : List Nat) (j : Nat) : (unlikeN t ps j).2.length ≤ ps.length := by
  fun_induction unlikeN t ps j with
  | case1 t ps j h h2 ih =>
    rw [List.length_append, List.length_take, List.length_drop] at ih
    omega
  | case2 t ps j h h2 ih => exact ih
  | case3 t ps j h => exact Nat.le_refl _
theorem hung_len (t : Nat) (ps : List Nat) (j : Nat) : (hungN t ps j).2.length ≤ ps.length := by
  fun_induction hungN t ps j with
  | case1 t ps j h h2 ih => exact ih
  | case2 t ps j h h2 ih =>
    rw [List.length_append, List.length_take, List.length_drop] at ih
    omega
  | case3 t ps j h => exact Nat.le_refl _
theorem rt_len (Z : Sens) : ∀ (ss : List Sn) (t m : Nat) (ps : List Nat), (rtN Z ss t m ps).2.length ≤ ps.length + ss.length
  | [], t, m, ps => Nat.le_refl _
  | .bit b :: r, t, m, ps => by
    rw [rtN, List.length_cons]
    have := rt_len Z r (fixN t m ps.length b) (m - 1) ps
    omega
  | .pl q :: r, t, m, ps => by
    rw [rtN, List.length_cons]
    split
    · have := rt_len Z r (flipN t m ps.length) m (ps ++ [Z.under q])
      rw [List.length_append, List.length_singleton] at this
      omega
    · have := rt_len Z r t m (ps ++ [q])
      rw [List.length_append, List.length_singleton] at this
      omega
theorem read_len (Z : Sens) (t : Nat) (ss : List Sn) : (Z.read t ss).2.length ≤ ss.length := by
  have := rt_len Z ss t ss.length []
  simpa [Sens.read] using this

structure I_is_gate_left where
  a : Addr
  t : Addr
  l : Addr
  n : Addr
  Z : Sens
  tb : Nat
  ss : List Sn
abbrev sp_is_gate_left (P : Program) (w : World) (CS : Addr) : Sp := spR (fun i : I_is_gate_left => [.raw (.ref i.a), .dat (nI i.tb), .dat (.list (i.ss.map enS))]) (fun i S H => AtS P w CS i.a i.t i.l i.n i.Z S H ∧ (SmallS i.ss)) (fun i d => d = (.bool (i.Z.gateLeft i.tb i.ss)))
theorem ee_is_gate_left {Ω : Wd} {δ : List AS} {R : KR} {te : TE} {ta : TA} {E : XK} {CS : Addr} (h : EE P w te Ω δ fun r Ω1 δ1 => ∃ a t l n Z, r = .raw (.ref a) ∧ HasS P w CS Ω1 a t l n Z ∧ EA P w ta Ω1 δ1 fun rs Ω2 δ2 => Ω2 = Ω1 ∧ ∃ i : I_is_gate_left, i.a = a ∧ i.Z = Z ∧ rs = [.dat (nI i.tb), .dat (.list (i.ss.map enS))] ∧ (SmallS i.ss) ∧ R (.dat (.bool (i.Z.gateLeft i.tb i.ss))) Ω2 δ2) : EE P w (tMeth CS "is_gate_left" (sp_is_gate_left P w CS) [] E te ta) Ω δ R :=
  ee_methR (h.imp fun r Ω1 δ1 ⟨a, t, l, n, Z, e, hs, k⟩ => ⟨a, e, mth_of hs.h0 (by decide), EA.imp k fun rs Ω2 δ2 ⟨e2, i, hia, hiZ, hrs, hp, z⟩ => ⟨⟨a, t, l, n, Z, i.tb, i.ss⟩, by subst hia hiZ; rw [hrs], by simp, (fun S H e3 hw => ⟨hs.now S H e3 (by rw [← e2]; exact hw), by subst hia hiZ; exact hp⟩), fun d hd => by subst hd hia hiZ; exact z⟩⟩)

abbrev N_Senses_is_gate_left : List Str := ["self", "table", "senses", "places", "one", "left"]
theorem sc_Senses_is_gate_left : FnScope N_Senses_is_gate_left ["self", "table", "senses"] (defScope s_Senses_is_gate_left) := ⟨rfl, rfl, rfl, by decide +kernel, rfl, by decide +kernel, by decide +kernel⟩
theorem ok_Senses_is_gate_left {k : Nat} {f : Addr} {fd : FuncData} (F : FnP K "is_gate_left" "Senses.is_gate_left" s_Senses_is_gate_left f fd) (T : Fx mg) {CS : Addr} (ks : KS K CS) (c_Senses_read_through : CalM P w K mg base k CS "read_through" ["self", "table", "senses"] (sp_read_through P w CS)) (c_hung_on : Cal P w K mg base k "hung_on" ["table", "places"] sp_hung_on) (c_unlike : Cal P w K mg base k "unlike" ["table", "places"] sp_unlike) : FnOk P w K mg base CX0 (k + 1) f fd ["self", "table", "senses"] (sp_is_gate_left P w CS) := by
  refine F.ok sc_Senses_is_gate_left (spR_len fun _ => rfl) (fun cdv A outer s H vs Q E hr hsp => ?_)
  refine ⟨_, PSs.nox (pss_cons (ps_asg (pe_mcal (pv 0) c_Senses_read_through hr (pa_cons (pv 1) (pa_cons (pv 2) pa_nil))) (pg_tup rfl (pgs_cons (pg_name (i := 1) sc_Senses_is_gate_left.nd rfl (Or.inl rfl)) (pgs_cons (pg_name (i := 3) sc_Senses_is_gate_left.nd rfl (Or.inl rfl)) pgs_nil))))
    (pss_cons (ps_asg (pe_cal c_unlike hr (by rfl) (pa_cons (pv 1) (pa_cons (pv 3) pa_nil))) (pg_tup rfl (pgs_cons (pg_name (i := 4) sc_Senses_is_gate_left.nd rfl (Or.inl rfl)) (pgs_cons (pg_name (i := 5) sc_Senses_is_gate_left.nd rfl (Or.inl rfl)) pgs_nil))))
    (pss_cons (ps_asg (pe_cal c_hung_on hr (by rfl) (pa_cons (pv 4) (pa_cons (pv 5) pa_nil))) (pg_tup rfl (pgs_cons (pg_name (i := 4) sc_Senses_is_gate_left.nd rfl (Or.inl rfl)) (pgs_cons (pg_name (i := 5) sc_Senses_is_gate_left.nd rfl (Or.inl rfl)) pgs_nil))))
    (pss_one (ps_ret (pe_or (pe_cmpR op_gt (pe_callB call_len2 (by rfl) T.len PySem.boot_len (pa_cons (pv 5) pa_nil)) pe_int (nomark _)) (pe_one (pe_and (pe_cmpR (op_eqD hr.units) (pe_callB call_len2 (by rfl) T.len PySem.boot_len (pa_cons (pv 5) pa_nil)) pe_int (nomark _)) (pe_one (pe_cmpR (op_neD hr.units) (pv 4) (pe_glob (v := .int 2) (by rfl) T.SAME.choose_spec ⟨_, rfl⟩) (nomark _))))))))))), ?_⟩
  refine run_spR (P := P) (w := w) hsp ?_
  rintro ⟨a, t, l, n, Z, tb, ss⟩ S H ⟨hz, hsm⟩
  dsimp only at hz hsm ⊢
  have hs := hz.old (cs := [])
  have l1 : (Z.read tb ss).2.length ≤ 10 := Nat.le_trans (read_len Z tb ss) hsm.1
  have l2 : (unlikeN (Z.read tb ss).1 (Z.read tb ss).2 1).2.length ≤ 10 := Nat.le_trans (unlike_len _ _ _) l1
  refine se_seq (se_asg (ee_read_through (ee_raw rfl ⟨a, t, l, n, Z, rfl, hs, ea_cons (ee_dat rfl (ea_cons (ee_dat rfl (ea_nil ⟨rfl, ⟨a, t, l, n, Z, tb, ss⟩, rfl, rfl, rfl, hsm, _, _, rfl, gs_tup2, ?_⟩))))⟩)))
  refine se_seq (se_asg (ee_unlike (ea_cons (ee_dat rfl (ea_cons (ee_dat rfl (ea_nil ⟨_, _, rfl, l1, _, _, rfl, gs_tup2, ?_⟩)))))))
  refine se_seq (se_asg (ee_hung_on (ea_cons (ee_dat rfl (ea_cons (ee_dat rfl (ea_nil ⟨_, _, rfl, l2, _, _, rfl, gs_tup2, ?_⟩)))))))
  have e : Z.gateLeft tb ss = (decide (1 < (cleanN (Z.read tb ss)).2.length) || (decide ((cleanN (Z.read tb ss)).2.length = 1) && !decide ((cleanN (Z.read tb ss)).1 = 2))) := rfl
  rw [e]
  refine se_retD (ee_orV (ee_op (ee_cb (ea_cons (ee_dat rfl (ea_nil (cb_len (.inl rfl) ?_)))))))
  rw [List.length_map]
  refine ee_lit (n_gt rfl rfl ⟨_, rfl, fun hb => ?_, fun hb => ?_⟩)
  · refine ⟨_, rfl, ⟨_, rfl⟩, _, rfl, ?_⟩
    rw [show decide (1 < (cleanN (Z.read tb ss)).2.length) = true from hb]
    rfl
  · rw [show decide (1 < (cleanN (Z.read tb ss)).2.length) = false from hb, Bool.false_or]
    refine ee_andV (ee_op (ee_cb (ea_cons (ee_dat rfl (ea_nil (cb_len (.inl rfl) ?_))))))
    rw [List.length_map]
    refine ee_lit (n_eq rfl rfl ⟨_, rfl, fun hb => ?_, fun hb => ?_⟩)
    · rw [show decide ((cleanN (Z.read tb ss)).2.length = 1) = true from hb, Bool.true_and]
      refine ee_op (ee_dat rfl (ee_lit (n_ne rfl rfl ⟨_, rfl, ⟨_, rfl⟩, _, rfl, rfl⟩)))
    · rw [show decide ((cleanN (Z.read tb ss)).2.length = 1) = false from hb, Bool.false_and]
      exact ⟨_, rfl, ⟨_, rfl⟩, _, rfl, rfl⟩

theorem get_none {l : List (Nat × Gate)} {m : Nat} (h : ∀ e ∈ l, e.1 < m) : dkGet (l.map enL) (m : Int) = none := by
  rw [dkGet_left, List.find?_eq_none.mpr (fun e he => by
    have := h e he
    simp only [decide_eq_true_eq]
    omega)]
  rfl
theorem dkPut_left {l : List (Nat × Gate)} {m : Nat} (g : Gate) (h : ∀ e ∈ l, e.1 < m) : dkPut (l.map enL) (m : Int) (enG g) = (l ++ [(m, g)]).map enL := by
  unfold dkPut
  rw [dkGet_any, get_none h, if_neg (by simp), List.map_append]
  rfl
theorem putD_known {l : List (Nat × Gate)} {m : Nat} {g : Gate} (h : (l.find? fun e => decide (e.2 = g)) = none) : putD (l.map enK) (.tup (kG g)) (nI m) = (l ++ [(m, g)]).map enK := by
  unfold putD
  rw [lookD_any, lookD_known, h, if_neg (by simp), List.map_append]
  rfl
abbrev senC (P : Program) (w : World) (CS a t l n : Addr) (Z : Sens) : Cells := [(a, cS0 CS t l n), (t, cS1 Z), (l, cS2 Z), (n, cS3 P w n Z)]
theorem has_sen {P : Program} {w : World} {CS a t l n : Addr} {Z : Sens} {S0 H0 : Hp} {M : List Addr} {cs : Cells} (h0 : cs[0]? = some (a, cS0 CS t l n)) (h1 : cs[1]? = some (t, cS1 Z)) (h2 : cs[2]? = some (l, cS2 Z)) (h3 : cs[3]? = some (n, cS3 P w n Z)) : HasS P w CS (Wd.sym S0 H0 M cs) a t l n Z :=
  ⟨has_cell h0, has_cell h1, has_cell h2, has_cell h3⟩
structure I_sense_of where
  a : Addr
  t : Addr
  l : Addr
  n : Addr
  Z : Sens
  tb : Nat
  ss : List Sn
def OkS (Z : Sens) : Prop := (∀ e ∈ Z.left, e.1 < Z.told.length) ∧ Z.left.length < 1000
abbrev sp_sense_of (P : Program) (w : World) (CS : Addr) : Sp := spG (fun i : I_sense_of => [.raw (.ref i.a), .dat (nI i.tb), .dat (.list (i.ss.map enS))]) (fun i _ _ => SmallS i.ss ∧ OkS i.Z) (fun i => senC P w CS i.a i.t i.l i.n i.Z) (fun i r cs => r = .dat (enS (i.Z.senseOf i.tb i.ss).1) ∧ cs = senC P w CS i.a i.t i.l i.n (i.Z.senseOf i.tb i.ss).2)

abbrev N_Senses_sense_of : List Str := ["self", "table", "senses", "places", "left"]
theorem sc_Senses_sense_of : FnScope N_Senses_sense_of ["self", "table", "senses"] (defScope s_Senses_sense_of) := ⟨rfl, rfl, rfl, by decide +kernel, rfl, by decide +kernel, by decide +kernel⟩
theorem ok_Senses_sense_of {k : Nat} {f : Addr} {fd : FuncData} (F : FnP K "sense_of" "Senses.sense_of" s_Senses_sense_of f fd) (T : Fx mg) {CS : Addr} (ks : KS K CS) (c_Senses_read_through : CalM P w K mg base k CS "read_through" ["self", "table", "senses"] (sp_read_through P w CS)) (c_hung_on : Cal P w K mg base k "hung_on" ["table", "places"] sp_hung_on) (c_rising : Cal P w K mg base k "rising" ["table", "places"] sp_rising) (c_unlike : Cal P w K mg base k "unlike" ["table", "places"] sp_unlike) : FnOk P w K mg base CX0 (k + 1) f fd ["self", "table", "senses"] (sp_sense_of P w CS) := by
  refine F.ok sc_Senses_sense_of (spG_len fun _ => rfl) (fun cdv A outer s H vs Q E hr hsp => ?_)
  refine ⟨_, PSs.nox (pss_cons (ps_asg (pe_mcal (pv 0) c_Senses_read_through hr (pa_cons (pv 1) (pa_cons (pv 2) pa_nil))) (pg_tup rfl (pgs_cons (pg_name (i := 1) sc_Senses_sense_of.nd rfl (Or.inl rfl)) (pgs_cons (pg_name (i := 3) sc_Senses_sense_of.nd rfl (Or.inl rfl)) pgs_nil))))
    (pss_cons (ps_asg (pe_cal c_unlike hr (by rfl) (pa_cons (pv 1) (pa_cons (pv 3) pa_nil))) (pg_tup rfl (pgs_cons (pg_name (i := 1) sc_Senses_sense_of.nd rfl (Or.inl rfl)) (pgs_cons (pg_name (i := 3) sc_Senses_sense_of.nd rfl (Or.inl rfl)) pgs_nil))))
    (pss_cons (ps_asg (pe_cal c_hung_on hr (by rfl) (pa_cons (pv 1) (pa_cons (pv 3) pa_nil))) (pg_tup rfl (pgs_cons (pg_name (i := 1) sc_Senses_sense_of.nd rfl (Or.inl rfl)) (pgs_cons (pg_name (i := 3) sc_Senses_sense_of.nd rfl (Or.inl rfl)) pgs_nil))))
    (pss_cons (ps_if (pt_cmpR (op_eqD hr.units) (pe_callB call_len2 (by rfl) T.len PySem.boot_len (pa_cons (pv 3) pa_nil)) pe_int (nomark _))
    (pss_one (ps_ret (pe_tup (pa_cons pe_str (pa_cons (pv 1) pa_nil)))))
    pss_nil)
    (pss_cons (ps_if (PW.pt (pw_and (pt_cmpR (op_eqD hr.units) (pe_callB call_len2 (by rfl) T.len PySem.boot_len (pa_cons (pv 3) pa_nil)) pe_int (nomark _)) (pw_and1 (pt_cmpR (op_eqD hr.units) (pv 1) (pe_glob (v := .int 2) (by rfl) T.SAME.choose_spec ⟨_, rfl⟩) (nomark _)))))
    (pss_one (ps_ret (pe_tup (pa_cons pe_str (pa_cons (pe_ix ix_list (pv 3) pe_int (fun _ _ => rfl)) pa_nil)))))
    pss_nil)
    (pss_cons (ps_set (i := 4) sc_Senses_sense_of.nd rfl (Or.inl rfl) (pe_cal c_rising hr (by rfl) (pa_cons (pv 1) (pa_cons (pv 3) pa_nil))))
    (pss_cons (ps_if (pt_cmp (pc_nnotin hr (pv 4) (pe_fld (pv 0) rfl)))
    (pss_cons (ps_nput hr (pe_fld (pv 0) rfl) (pv 4) (pe_callB call_len2 (by rfl) T.len PySem.boot_len (pa_cons (pe_fld (pv 0) rfl) pa_nil)) rfl)
    (pss_one (ps_dput (hu_of hr) (pe_fld (pv 0) rfl) (pe_callB call_len2 (by rfl) T.len PySem.boot_len (pa_cons (pe_fld (pv 0) rfl) pa_nil)) (pv 4) rfl)))
    pss_nil)
    (pss_one (ps_ret (pe_tup (pa_cons pe_str (pa_cons (pe_nget hr (pe_fld (pv 0) rfl) (pv 4) (fun _ _ => rfl)) pa_nil)))))))))))), ?_⟩
  refine run_spG (P := P) (w := w) hsp ?_
  rintro ⟨a, t, l, n, Z, tb, ss⟩ S H ⟨hsm, hok⟩
  dsimp only at hsm hok ⊢
  have hs : HasS P w CS (Wd.sym S H (adr (senC P w CS a t l n Z)) (senC P w CS a t l n Z)) a t l n Z := has_sen rfl rfl rfl rfl
  have l1 : (Z.read tb ss).2.length ≤ 10 := Nat.le_trans (read_len Z tb ss) hsm.1
  have l2 : (unlikeN (Z.read tb ss).1 (Z.read tb ss).2 1).2.length ≤ 10 := Nat.le_trans (unlike_len _ _ _) l1
  have l3 : (cleanN (Z.read tb ss)).2.length ≤ 10 := Nat.le_trans (hung_len _ _ _) l2
  refine se_seq (se_asg (ee_read_through (ee_raw rfl ⟨a, t, l, n, Z, rfl, hs, ea_cons (ee_dat rfl (ea_cons (ee_dat rfl (ea_nil ⟨rfl, ⟨a, t, l, n, Z, tb, ss⟩, rfl, rfl, rfl, hsm, _, _, rfl, gs_tup2, ?_⟩))))⟩)))
  refine se_seq (se_asg (ee_unlike (ea_cons (ee_dat rfl (ea_cons (ee_dat rfl (ea_nil ⟨_, _, rfl, l1, _, _, rfl, gs_tup2, ?_⟩)))))))
  refine se_seq (se_asg (ee_hung_on (ea_cons (ee_dat rfl (ea_cons (ee_dat rfl (ea_nil ⟨_, _, rfl, l2, _, _, rfl, gs_tup2, ?_⟩)))))))
  have e : Z.senseOf tb ss = Z.fin (cleanN (Z.read tb ss)) := rfl
  rw [e]
  have ec : hungN (unlikeN (Z.read tb ss).1 (Z.read tb ss).2 1).1 (unlikeN (Z.read tb ss).1 (Z.read tb ss).2 1).2 0 = cleanN (Z.read tb ss) := rfl
  rw [ec]
  generalize cleanN (Z.read tb ss) = q at l3 ⊢
  refine se_seq (se_if (et_test (ee_op (ee_cb (ea_cons (ee_dat rfl (ea_nil (cb_len (.inl rfl) ?_))))))))
  rw [List.length_map]
  refine ee_lit (n_eq rfl rfl ⟨_, rfl, fun hb => ?_, fun hb => ?_⟩)
  · have h0 : q.2.length = 0 := of_decide_eq_true hb
    have e2 : Z.fin q = (.bit q.1, Z) := by unfold Sens.fin; rw [if_pos h0]
    rw [e2]
    refine se_retD (ee_tup (ea_cons (ee_str (ea_cons (ee_dat rfl (ea_nil ⟨[_, _], rfl, (by show 2 ≤ sizeLine; decide), _, rfl, _, rfl, (fun i z => nomatch z), rfl, rfl⟩))))))
  · have h0 : ¬ q.2.length = 0 := of_decide_eq_false hb
    refine se_next ?_
    refine se_seq (se_if (et_andB (p := decide (q.2.length = 1)) (q := decide (q.1 = 2)) (et_test (ee_op (ee_cb (ea_cons (ee_dat rfl (ea_nil (cb_len (.inl rfl) ?_)))))) ) (fun _ => et_test (ee_op (ee_dat rfl (ee_lit (n_eq rfl rfl ⟨_, rfl, rfl, rfl, rfl⟩))))) ⟨fun hb => ?_, fun hb => ?_⟩))
    · rw [List.length_map]
      exact ee_lit (n_eq rfl rfl ⟨_, rfl, rfl, rfl, rfl⟩)
    · have h1 : q.2.length = 1 ∧ q.1 = 2 := by simpa using hb
      have e2 : Z.fin q = (.pl (q.2.headD 0), Z) := by unfold Sens.fin; rw [if_neg h0, if_pos h1]
      rw [e2]
      obtain ⟨u, hu⟩ := List.length_eq_one_iff.mp h1.1
      rw [hu]
      refine se_retD (ee_tup (ea_cons (ee_str (ea_cons (ee_op (ee_dat rfl (ee_lit (n_ixL rfl rfl (ea_nil ⟨[_, _], rfl, (by show 2 ≤ sizeLine; decide), _, rfl, _, rfl, (fun i z => nomatch z), rfl, rfl⟩)))))))))
    · have h1 : ¬ (q.2.length = 1 ∧ q.1 = 2) := by simpa using hb
      refine se_next ?_
      refine se_seq (se_set (ee_rising (ea_cons (ee_dat rfl (ea_cons (ee_dat rfl (ea_nil ⟨_, _, rfl, l3, _, rfl, ?_⟩)))))))
      have eg : PyData.tuple [nI (risingN q.1 q.2).1, nT (risingN q.1 q.2).2] = .tuple (NestedKey.datas (kG (risingN q.1 q.2))) := enG_k _
      rw [eg]
      generalize hg : risingN q.1 q.2 = g
      refine se_seq (se_if (et_B (ee_nin (ee_dat rfl (ee_known ks (ee_raw rfl ⟨a, t, l, n, Z, rfl, hs, Z.left.map enK, kG g, hs.h3, rfl, kG_depth g, _, rfl, fun hb => ?_, fun hb => ?_⟩))))))
      · have hn : Z.num g = none := by
          rw [if_pos rfl, lookD_known, Option.isSome_map] at hb
          simpa [Sens.num] using hb
        have hnf : (Z.left.find? fun e => decide (e.2 = g)) = none := by simpa [Sens.num] using hn
        have e2 : Z.fin q = (.pl Z.told.length, { Z with left := Z.left ++ [(Z.told.length, g)] }) := by unfold Sens.fin; rw [if_neg h0, if_neg h1, hg, hn]
        rw [e2]
        have hlen : (Z.left.map enK).length < sizeLine := by rw [List.length_map]; exact Nat.lt_of_lt_of_le hok.2 (by decide)
        have hlen2 : (Z.left.map enL).length < sizeLine := by rw [List.length_map]; exact Nat.lt_of_lt_of_le hok.2 (by decide)
        refine se_seq (se_nputC (ee_cb (ea_cons (ee_told ks (ee_raw rfl ⟨a, t, l, n, Z, rfl, hs, ea_nil (cb_lenH hs.h1 ?_)⟩)))))
        rw [List.length_map]
        refine ee_known ks (ee_raw rfl ⟨a, t, l, n, Z, rfl, hs, ee_dat rfl ⟨S, H, _, _, 3, n, _, _, kG g, rfl, rfl, rfl, rfl, rfl, kG_depth g, hlen, ?_⟩⟩)
        rw [putD_known hnf]
        have g0 : Has (Wd.sym S H (adr (senC P w CS a t l n Z)) ((senC P w CS a t l n Z).set 3 (n, Cell.dic P w n ((Z.left ++ [(Z.told.length, g)]).map enK)))) a (cS0 CS t l n) := has_cell (n := 0) rfl
        have g1 : Has (Wd.sym S H (adr (senC P w CS a t l n Z)) ((senC P w CS a t l n Z).set 3 (n, Cell.dic P w n ((Z.left ++ [(Z.told.length, g)]).map enK)))) t (cS1 Z) := has_cell (n := 1) rfl
        refine se_dputC (ee_dat rfl (ee_f (ns := nsS) (j := 1) (by decide) (ee_raw rfl ⟨a, CS, _, _, rfl, g0, ks.cls, ks.left, rfl, (fun i z => nomatch z), ee_cb (ea_cons (ee_f (ns := nsS) (j := 0) (by decide) (ee_raw rfl ⟨a, CS, _, _, rfl, g0, ks.cls, ks.told, rfl, (fun i z => nomatch z), ea_nil (cb_lenH g1 ?_)⟩)))⟩)))
        rw [List.length_map]
        refine ⟨S, H, _, _, 2, l, _, _, _, rfl, rfl, rfl, rfl, rfl, hlen2, ?_⟩
        rw [← enG_k, dkPut_left g hok.1]
        have k0 : HasS P w CS (Wd.sym S H (adr (senC P w CS a t l n Z)) (senC P w CS a t l n { Z with left := Z.left ++ [(Z.told.length, g)] })) a t l n { Z with left := Z.left ++ [(Z.told.length, g)] } := has_sen rfl rfl rfl rfl
        refine se_retD (ee_tup (ea_cons (ee_str (ea_cons (ee_nget (ee_known ks (ee_raw rfl ⟨a, t, l, n, _, rfl, k0, ee_dat rfl ⟨_, kG g, nI Z.told.length, k0.h3, congrArg Rs.dat (enG_k g), kG_depth g, ?_, ea_nil ⟨[_, _], rfl, (by show 2 ≤ sizeLine; decide), _, rfl, _, rfl, (fun i z => nomatch z), rfl, rfl⟩⟩⟩)))))))
        rw [lookD_known, List.find?_append, hnf]
        simp
      · obtain ⟨m, hm⟩ : ∃ m, Z.num g = some m := by
          rw [if_pos rfl, lookD_known, Option.isSome_map] at hb
          exact Option.isSome_iff_exists.mp (by simpa [Sens.num] using hb)
        have e2 : Z.fin q = (.pl m, Z) := by unfold Sens.fin; rw [if_neg h0, if_neg h1, hg, hm]
        rw [e2]
        refine se_next ?_
        refine se_retD (ee_tup (ea_cons (ee_str (ea_cons (ee_nget (ee_known ks (ee_raw rfl ⟨a, t, l, n, _, rfl, hs, ee_dat rfl ⟨_, kG g, nI m, hs.h3, rfl, kG_depth g, ?_, ea_nil ⟨[_, _], rfl, (by show 2 ≤ sizeLine; decide), _, rfl, _, rfl, (fun i z => nomatch z), rfl, rfl⟩⟩⟩)))))))
        rw [lookD_known, show (Z.left.find? fun e => decide (e.2 = g)).map (·.1) = some m from hm]
        rfl

end
end G
set_option autoImplicit false
/-! Tables: their figures, their bounds. -/
namespace M
theorem figN_le (t r : Nat) : figN t r ≤ 1 := Nat.and_le_right
theorem figN_mod (t r : Nat) : figN t r = t >>> r % 2 := Nat.and_one_is_mod _
theorem numN_lt : ∀ {bits : List Nat}, (∀ b ∈ bits, b ≤ 1) → numN bits < 2 ^ bits.length
  | [], _ => by decide
  | b :: r, h => by
    have h1 := numN_lt (bits := r) fun x hx => h x (List.mem_cons_of_mem _ hx)
    have h2 := h b List.mem_cons_self
    show 2 * numN r + b < 2 ^ (r.length + 1)
    rw [Nat.pow_succ]
    omega
theorem figN_numN : ∀ {bits : List Nat}, (∀ b ∈ bits, b ≤ 1) → ∀ {r : Nat} {x : Nat}, bits[r]? = some x → figN (numN bits) r = x
  | [], _, r, x, h => by simp at h
  | b :: l, hb, 0, x, h => by
    simp at h
    subst h
    have h2 := hb b List.mem_cons_self
    show (2 * numN l + b) >>> 0 &&& 1 = b
    rw [Nat.and_one_is_mod, Nat.shiftRight_zero]
    omega
  | b :: l, hb, r + 1, x, h => by
    have h2 := hb b List.mem_cons_self
    have ih := figN_numN (bits := l) (fun x hx => hb x (List.mem_cons_of_mem _ hx)) (r := r) (x := x) (by simpa using h)
    show (2 * numN l + b) >>> (r + 1) &&& 1 = x
    rw [Nat.add_comm r 1, Nat.shiftRight_add, show (2 * numN l + b) >>> 1 = numN l by rw [Nat.shiftRight_eq_div_pow]; omega]
    exact ih
theorem shl1 (m : Nat) : 1 <<< m = 2 ^ m := by rw [Nat.shiftLeft_eq, Nat.one_mul]
/-- a table over m places -/
def Tab (t m : Nat) : Prop := t < 2 ^ 2 ^ m
theorem tab_num {n : Nat} {f : Nat → Nat} (hf : ∀ r, f r ≤ 1) : Tab (numN ((List.range (1 <<< n)).map f)) n := by
  have := numN_lt (bits := (List.range (1 <<< n)).map f) fun b hb => by
    obtain ⟨r, _, rfl⟩ := List.mem_map.mp hb
    exact hf r
  rw [List.length_map, List.length_range, shl1] at this
  unfold Tab
  rw [shl1]
  exact this
theorem fig_num {n : Nat} {f : Nat → Nat} (hf : ∀ r, f r ≤ 1) {r : Nat} (hr : r < 2 ^ n) : figN (numN ((List.range (1 <<< n)).map f)) r = f r := by
  refine figN_numN (fun b hb => ?_) ?_
  · obtain ⟨r, _, rfl⟩ := List.mem_map.mp hb
    exact hf r
  · rw [List.getElem?_map, List.getElem?_range (by rw [shl1]; exact hr)]
    rfl
theorem tab_fix (t m k b : Nat) : Tab (fixN t m k b) (m - 1) := tab_num fun _ => figN_le _ _
theorem tab_join (t m k j : Nat) : Tab (joinN t m k j) (m - 1) := tab_num fun _ => figN_le _ _
theorem tab_flip (t m k : Nat) : Tab (flipN t m k) m := tab_num fun _ => figN_le _ _
theorem tab_ord (t : Nat) (o : List Nat) : Tab (ordN t o) o.length := tab_num fun _ => figN_le _ _
theorem cut_len {ps : List Nat} {j : Nat} (h : j < ps.length) : (ps.take j ++ ps.drop (j + 1)).length = ps.length - 1 := by
  rw [List.length_append, List.length_take, List.length_drop]
  omega
theorem unlike_tab (t : Nat) (ps : List Nat) (j : Nat) (h : Tab t ps.length) : Tab (unlikeN t ps j).1 (unlikeN t ps j).2.length := by
  fun_induction unlikeN t ps j with
  | case1 t ps j hj h2 ih => exact ih (by rw [cut_len hj]; exact tab_join _ _ _ _)
  | case2 t ps j hj h2 ih => exact ih h
  | case3 t ps j hj => exact h
theorem hung_tab (t : Nat) (ps : List Nat) (j : Nat) (h : Tab t ps.length) : Tab (hungN t ps j).1 (hungN t ps j).2.length := by
  fun_induction hungN t ps j with
  | case1 t ps j hj h2 ih => exact ih h
  | case2 t ps j hj h2 ih => exact ih (by rw [cut_len hj]; exact tab_fix _ _ _ _)
  | case3 t ps j hj => exact h
theorem rt_tab (Z : Sens) : ∀ (ss : List Sn) (t m : Nat) (ps : List Nat), m = ps.length + ss.length → Tab t m → Tab (rtN Z ss t m ps).1 (rtN Z ss t m ps).2.length
  | [], t, m, ps, hm, h => by
    rw [rtN]
    rw [hm] at h
    exact h
  | .bit b :: r, t, m, ps, hm, h => by
    rw [List.length_cons] at hm
    rw [rtN]
    exact rt_tab Z r _ _ _ (by omega) (tab_fix _ _ _ _)
  | .pl q :: r, t, m, ps, hm, h => by
    rw [List.length_cons] at hm
    rw [rtN]
    split
    · exact rt_tab Z r _ _ _ (by rw [List.length_append, List.length_singleton]; omega) (tab_flip _ _ _)
    · exact rt_tab Z r _ _ _ (by rw [List.length_append, List.length_singleton]; omega) h
theorem read_tab (Z : Sens) {t : Nat} {ss : List Sn} (h : Tab t ss.length) : Tab (Z.read t ss).1 (Z.read t ss).2.length := rt_tab Z ss t ss.length [] (by simp) h
theorem clean_tab {q : Nat × List Nat} (h : Tab q.1 q.2.length) : Tab (cleanN q).1 (cleanN q).2.length := hung_tab _ _ _ (unlike_tab _ _ _ h)
/-! circuits in order -/
structure COk (c : Circ) : Prop where
  mem : ∀ m ∈ c.mems, m.1 < 2 ∧ m.2 < c.first + c.gates.length
  gate : ∀ i g, c.gates[i]? = some g → g.2.length ≤ 3 ∧ Tab g.1 g.2.length ∧ ∀ p ∈ g.2, p < c.first + i
  out : ∀ p ∈ c.outs, p < c.first + c.gates.length
  ins : c.ins ≤ 100
  mems : c.mems.length ≤ 100
  gates : c.gates.length ≤ 60
  outs : c.outs.length ≤ 100
/-- the senses of the first n places -/
structure ZOk (Z : Sens) (n : Nat) : Prop where
  len : Z.told.length = n
  left : ∀ e ∈ Z.left, e.1 < n
  bits : ∀ b, Sn.bit b ∈ Z.told → b < 2
theorem fin_told (Z : Sens) (q : Nat × List Nat) : (Z.fin q).2.told = Z.told := by
  unfold Sens.fin
  split
  · rfl
  · split
    · rfl
    · split <;> rfl
theorem fin_left (Z : Sens) (q : Nat × List Nat) : (Z.fin q).2.left = Z.left ∨ ∃ g, (Z.fin q).2.left = Z.left ++ [(Z.told.length, g)] := by
  unfold Sens.fin
  split
  · exact .inl rfl
  · split
    · exact .inl rfl
    · split
      · exact .inl rfl
      · exact .inr ⟨_, rfl⟩
theorem fin_bit (Z : Sens) {q : Nat × List Nat} (h : Tab q.1 q.2.length) {b : Nat} (e : (Z.fin q).1 = .bit b) : b < 2 := by
  unfold Sens.fin at e
  split at e
  · rename_i h0
    cases e
    rw [h0] at h
    exact h
  · split at e
    · cases e
    · split at e <;> cases e
theorem say_mem {Z : Sens} {p : Nat} (h : p < Z.told.length) : Z.say p ∈ Z.told := by
  unfold Sens.say
  rw [List.getD_eq_getElem?_getD, List.getElem?_eq_getElem h]
  exact List.getElem_mem h
theorem next_ok {Z : Sens} {n : Nat} (h : ZOk Z n) {g : Gate} (ht : Tab g.1 g.2.length) : ZOk (Z.next g) (n + 1) where
  len := by
    show (Z.told ++ [_]).length = n + 1
    rw [List.length_append, h.len]
    rfl
  left := fun e he => by
    have he : e ∈ ((Z.senseOf g.1 (g.2.map Z.say)).2).left := he
    rcases fin_left Z (cleanN (Z.read g.1 (g.2.map Z.say))) with q | ⟨g', q⟩
    · rw [Sens.senseOf, q] at he
      have := h.left e he
      omega
    · rw [Sens.senseOf, q] at he
      rcases List.mem_append.mp he with he | he
      · have := h.left e he
        omega
      · rw [List.mem_singleton.mp he, h.len]
        exact Nat.lt_succ_self _
  bits := fun b hb => by
    have hb : Sn.bit b ∈ Z.told ++ [(Z.senseOf g.1 (g.2.map Z.say)).1] := hb
    rcases List.mem_append.mp hb with hb | hb
    · exact h.bits b hb
    · exact fin_bit Z (clean_tab (read_tab Z (by rw [List.length_map]; exact ht))) (List.mem_singleton.mp hb).symm
theorem next_left_len (Z : Sens) (g : Gate) : (Z.next g).left.length ≤ Z.left.length + 1 := by
  show ((Z.fin (cleanN (Z.read g.1 (g.2.map Z.say)))).2.left).length ≤ _
  rcases fin_left Z (cleanN (Z.read g.1 (g.2.map Z.say))) with q | ⟨g', q⟩
  · rw [q]
    omega
  · rw [q, List.length_append]
    exact Nat.le_refl _
theorem next_told (Z : Sens) (g : Gate) : (Z.next g).told = Z.told ++ [(Z.senseOf g.1 (g.2.map Z.say)).1] := rfl
end M
set_option Elab.async false
set_option linter.all false
set_option maxRecDepth 100000
set_option maxHeartbeats 4000000
set_option autoImplicit false
namespace G
open PySem PySem.Spec PyProof.Rows L2 D M
local macro_rules | `(tactic| walk_at "d1") => `(tactic| first
  | (with_reducible refine se_seq ?_)
  | (with_reducible refine se_next ?_)
  | (with_reducible refine se_set ?_)
  | (with_reducible refine se_retD ?_)
  | (with_reducible refine se_if ?_)
  | (with_reducible refine ee_lit ?_)
  | (with_reducible refine ee_int ?_)
  | (with_reducible refine ee_str ?_)
  | (with_reducible refine ee_bl ?_)
  | (with_reducible refine ee_non ?_)
  | (with_reducible refine ee_op ?_)
  | (with_reducible refine ee_tup ?_)
  | (with_reducible refine ee_cb ?_)
  | (with_reducible refine et_test ?_)
  | (with_reducible refine ea_nil ?_)
  | (with_reducible refine ea_cons ?_)
  | ((with_reducible refine' ee_dat ?e ?_); (case e => rfl))
  | ((with_reducible refine' ee_own ?e ?_); (case e => rfl))
  | ((with_reducible refine' ee_raw ?e ?_); (case e => rfl))
  | ((with_reducible refine' n_and ?ha ?hb ?_); (case ha => rfl); (case hb => rfl))
  | ((with_reducible refine' n_or ?ha ?hb ?_); (case ha => rfl); (case hb => rfl))
  | ((with_reducible refine' n_xor ?ha ?hb ?_); (case ha => rfl); (case hb => rfl))
  | ((with_reducible refine' n_add ?ha ?hb ?_); (case ha => rfl); (case hb => rfl))
  | ((with_reducible refine' n_sub ?ha ?hb ?hc ?_); (case ha => rfl); (case hb => rfl); (case hc => first | omega | assumption | decide))
  | ((with_reducible refine' n_mul ?ha ?hb ?hc ?_); (case ha => rfl); (case hb => rfl); (case hc => first | omega | assumption | decide))
  | ((with_reducible refine' n_shr ?ha ?hb ?_); (case ha => rfl); (case hb => rfl))
  | ((with_reducible refine' n_shl ?ha ?hb ?hc ?hd ?_); (case ha => rfl); (case hb => rfl); (case hc => first | omega | assumption | decide); (case hd => first | omega | assumption | decide))
  | ((with_reducible refine' n_lt ?ha ?hb ?_); (case ha => rfl); (case hb => rfl))
  | ((with_reducible refine' n_gt ?ha ?hb ?_); (case ha => rfl); (case hb => rfl))
  | ((with_reducible refine' n_eq ?ha ?hb ?_); (case ha => rfl); (case hb => rfl))
  | ((with_reducible refine' n_ne ?ha ?hb ?_); (case ha => rfl); (case hb => rfl))
  | (with_reducible refine ⟨_, rfl, ?_⟩)
  | (with_reducible refine ⟨_, _, rfl, ?_⟩)
  | (with_reducible refine ⟨_, _, _, rfl, ?_⟩)
  | (with_reducible refine ⟨_, _, _, _, rfl, ?_⟩)
  | exact ⟨rfl, _, rfl, rfl⟩)
local macro_rules | `(tactic| walk_at "d") => `(tactic| (repeat (walk_at "d1")))
section
variable {P : Program} {w : World} {K : PySem.W.Frag} {mg : Str → Option Value} {base : Heap}
def enR : Sn → PyData
  | .bit b => .tuple [.str "bit", nI b]
  | .pl p => .tuple [.str "memory", nI p]
theorem mem_ne : ¬ (Str.ofString "memory" = Str.ofString "bit") := by decide
theorem sh_mem : SeqAt.shaped (.str "memory") = true := by decide +kernel
abbrev senX (P : Program) (w : World) (CS a t l n : Addr) (Z : Sens) : Cells := senC P w CS a t l n Z
structure I_Senses_init where
  x : Addr
  c : Circ
  rd : List Sn
abbrev sp_Senses_init (P : Program) (w : World) (CS : Addr) : Sp := spG (fun i : I_Senses_init => [.raw (.ref i.x), .dat (enC i.c), .dat (.list (i.rd.map enR))]) (fun i _ _ => COk i.c ∧ i.rd.length = i.c.mems.length ∧ ∀ b, Sn.bit b ∈ i.rd → b < 2) (fun i => [(i.x, .ins CS [] [])]) (fun i r cs => r = .dat .none ∧ ∃ t l n, cs = senC P w CS i.x t l n (initN i.c i.rd))
theorem set_one (P : Program) (w : World) (CS a t l n : Addr) (Z : Sens) (s : Sn) : (senC P w CS a t l n Z).set 1 (t, Cell.lst (Z.told.map enS ++ [enS s])) = senC P w CS a t l n { Z with told := Z.told ++ [s] } := by
  show [_, (t, Cell.lst (Z.told.map enS ++ [enS s])), _, _] = _
  rw [show Z.told.map enS ++ [enS s] = (Z.told ++ [s]).map enS by rw [List.map_append]; rfl]

abbrev N_Senses_init : List Str := ["self", "circuit", "reading", "k", "word", "worth", "table", "places", "place"]
theorem sc_Senses_init : FnScope N_Senses_init ["self", "circuit", "reading"] (defScope s_Senses_init) := ⟨rfl, rfl, rfl, by decide +kernel, rfl, by decide +kernel, by decide +kernel⟩
theorem ok_Senses_init {k : Nat} {f : Addr} {fd : FuncData} (F : FnP K "__init__" "Senses.__init__" s_Senses_init f fd) (T : Fx mg) {CS : Addr} (ks : KS K CS) (c_Senses_sense_of : CalM P w K mg base k CS "sense_of" ["self", "table", "senses"] (sp_sense_of P w CS)) : FnOk P w K mg base CX0 (k + 1) f fd ["self", "circuit", "reading"] (sp_Senses_init P w CS) := by
  refine F.ok sc_Senses_init (spG_len fun _ => rfl) (fun cdv A outer s H vs Q E hr hsp => ?_)
  refine ⟨_, PSs.nox (pss_cons (ps_fld (pv 0) (pe_lc (own := [("k", 3)]) (g := gName 3) (by rfl) sc_Senses_init.nd (pi_range1 (by rfl) T.range (pa_cons (pe_ix ix_tup (pv 1) pe_int (fun _ _ => rfl)) pa_nil)) (blkOk_by (own := [("k", 3)]) (N := N_Senses_init) (sc := defScope s_Senses_init) (by decide +kernel)) (fun _ _ _ _ _ => pg_name (i := 3) sc_Senses_init.nd rfl (Or.inl rfl)) (fun _ _ _ _ _ => pts_nil) (fun _ _ _ _ _ => pe_tup (pa_cons pe_str (pa_cons (pv 3) pa_nil)))) rfl)
    (pss_cons (ps_fld (pv 0) pe_dnewK rfl)
    (pss_cons (ps_fld (pv 0) pe_dnewN rfl)
    (pss_cons (ps_for PassesOwn.never rfl (pi_list (pv 2)) (pg_tup rfl (pgs_cons (pg_name (i := 4) sc_Senses_init.nd rfl (Or.inl rfl)) (pgs_cons (pg_name (i := 5) sc_Senses_init.nd rfl (Or.inl rfl)) pgs_nil)))
    (pss_one (ps_if (pt_cmpR (op_eqD hr.units) (pv 4) pe_str (nomark _))
    (pss_one (ps_expr (pe_bm PySem.F.plainAttrs_list PySem.F.slot_list_append PySem.F.type_list_append mt_append (pe_fld (pv 0) rfl) (pa_cons (pe_tup (pa_cons pe_str (pa_cons (pv 5) pa_nil))) pa_nil))))
    (pss_one (ps_expr (pe_bm PySem.F.plainAttrs_list PySem.F.slot_list_append PySem.F.type_list_append mt_append (pe_fld (pv 0) rfl) (pa_cons (pe_tup (pa_cons pe_str (pa_cons (pv 5) pa_nil))) pa_nil)))))))
    (pss_one (ps_for PassesOwn.never rfl (pi_list (pe_ix ix_tup (pv 1) pe_int (fun _ _ => rfl))) (pg_tup rfl (pgs_cons (pg_name (i := 6) sc_Senses_init.nd rfl (Or.inl rfl)) (pgs_cons (pg_name (i := 7) sc_Senses_init.nd rfl (Or.inl rfl)) pgs_nil)))
    (pss_one (ps_expr (pe_bm PySem.F.plainAttrs_list PySem.F.slot_list_append PySem.F.type_list_append mt_append (pe_fld (pv 0) rfl) (pa_cons (pe_mcal (pv 0) c_Senses_sense_of hr (pa_cons (pv 6) (pa_cons (pe_lc (own := [("place", 8)]) (g := gName 8) (by rfl) sc_Senses_init.nd (pi_tup (pv 7)) (blkOk_by (own := [("place", 8)]) (N := N_Senses_init) (sc := defScope s_Senses_init) (by decide +kernel)) (fun _ _ _ _ _ => pg_name (i := 8) sc_Senses_init.nd rfl (Or.inl rfl)) (fun _ _ _ _ _ => pts_nil) (fun _ _ _ _ _ => pe_ix (ixK_list (K := K) (by rfl)) (peK_fld (K := K) (by rfl) (pv 0) rfl) (pv 8) (fun _ _ => rfl))) pa_nil))) pa_nil)))))))))), ?_⟩
  refine run_spG (P := P) (w := w) hsp ?_
  rintro ⟨x, c, rd⟩ S H ⟨hc, hl, hb⟩
  dsimp only at hc hl hb ⊢
  have hins := hc.ins
  have hgs := hc.gates
  have hms := hc.mems
  refine se_seq (se_fldN (ns := []) ks.cls ks.told rfl (by decide) (en_mapX (List.range c.ins) nI (fun k => enS (.pl k)) (es_range1 (ea_cons (ee_op (ee_dat rfl (ee_lit (n_ixT rfl rfl (ea_nil ⟨c.ins, rfl, by omega, rangeD0 _, rfl, ?_, ?_, ?_⟩)))))))))
  · rw [List.length_range]
    exact Nat.lt_of_le_of_lt hins (by decide)
  · intro i hi
    exact ⟨_, gs_name, rfl, ee_tup (ea_cons (ee_str (ea_cons (ee_dat rfl (ea_nil ⟨[_, _], rfl, (by show 2 ≤ sizeLine; decide), rfl, rfl, rfl⟩)))))⟩
  refine ⟨S, H, _, _, 0, x, [], rfl, rfl, rfl, fun t => ?_⟩
  refine se_seq (se_fldD (n := 1) ks.cls ks.left rfl (by decide) rfl rfl fun l => ?_)
  refine se_seq (se_fldND (n := 2) ks.cls ks.known rfl (by decide) rfl rfl fun n => ?_)
  refine se_perm (List.reverse_perm _).symm ?_
  have e0 : ([(n, Cell.dic P w n []), (l, Cell.dk []), (t, Cell.lst ((List.range c.ins).map fun k => enS (.pl k))), (x, Cell.ins CS nsS [.raw (.ref t), .raw (.ref l), .raw (.ref n)])] : Cells).reverse = senC P w CS x t l n ⟨(List.range c.ins).map .pl, []⟩ := by
    show [_, (t, Cell.lst ((List.range c.ins).map fun k => enS (.pl k))), _, _] = [_, (t, Cell.lst (((List.range c.ins).map Sn.pl).map enS)), _, _]
    rw [List.map_map]
    rfl
  show SE P w _ (Wd.sym S H [x] ([(n, Cell.dic P w n []), (l, Cell.dk []), (t, Cell.lst ((List.range c.ins).map fun k => enS (.pl k))), (x, Cell.ins CS nsS [.raw (.ref t), .raw (.ref l), .raw (.ref n)])] : Cells).reverse) _ _
  rw [e0]
  refine se_seq (se_forX rd enR (fun r Ω' δ' => ∃ pre, rd = pre ++ r ∧ Ω' = Wd.sym S H [x] (senC P w CS x t l n ⟨(List.range c.ins).map .pl ++ pre, []⟩) ∧ ∃ a b, δ' = [.raw (.ref x), .dat (enC c), .dat (.list (rd.map enR)), .un, a, b, .un, .un, .un]) (es_list (ee_dat rfl ⟨_, rfl, rfl, ⟨[], rfl, by rw [List.append_nil], .un, .un, rfl⟩, ?_, ?_⟩)))
  · rintro - s r Ω' δ' - ⟨pre, hpre, rfl, a, b, rfl⟩
    have hs : HasS P w CS (Wd.sym S H [x] (senC P w CS x t l n ⟨(List.range c.ins).map .pl ++ pre, []⟩)) x t l n ⟨(List.range c.ins).map .pl ++ pre, []⟩ := has_sen rfl rfl rfl rfl
    have hsz : (((List.range c.ins).map Sn.pl ++ pre).map enS).length < sizeLine := by
      have : pre.length ≤ rd.length := by rw [hpre, List.length_append]; omega
      rw [List.length_map, List.length_append, List.length_map, List.length_range]
      exact Nat.lt_of_le_of_lt (show c.ins + pre.length ≤ 200 by omega) (by decide)
    cases s with
    | bit v =>
      refine ⟨_, gs_tup2, ?_⟩
      refine se_if (et_test (ee_op (ee_dat rfl (ee_str (n_eqS sh_bit sh_bit ⟨_, rfl, fun _ => ?_, fun h => by simp at h⟩)))))
      refine se_appendC (ee_told ks (ee_raw rfl ⟨x, t, l, n, _, rfl, hs, t, _, rfl, hs.h1, ee_tup (ea_cons (ee_str (ea_cons (ee_dat rfl (ea_nil ⟨[_, _], rfl, (by show 2 ≤ sizeLine; decide), S, H, _, _, 1, _, _, rfl, rfl, rfl, hsz, ?_⟩)))))⟩))
      rw [show PyData.tuple [.str "bit", nI v] = enS (.bit v) from rfl, set_one]
      refine ⟨pre ++ [.bit v], by rw [hpre, List.append_assoc]; rfl, ?_, .dat (.str "bit"), .dat (nI v), rfl⟩
      rw [← List.append_assoc]
    | pl v =>
      refine ⟨_, gs_tup2, ?_⟩
      refine se_if (et_test (ee_op (ee_dat rfl (ee_str (n_eqS sh_mem sh_bit ⟨_, rfl, fun h => by simp [mem_ne] at h, fun _ => ?_⟩)))))
      refine se_appendC (ee_told ks (ee_raw rfl ⟨x, t, l, n, _, rfl, hs, t, _, rfl, hs.h1, ee_tup (ea_cons (ee_str (ea_cons (ee_dat rfl (ea_nil ⟨[_, _], rfl, (by show 2 ≤ sizeLine; decide), S, H, _, _, 1, _, _, rfl, rfl, rfl, hsz, ?_⟩)))))⟩))
      rw [show PyData.tuple [.str "place", nI v] = enS (.pl v) from rfl, set_one]
      refine ⟨pre ++ [.pl v], by rw [hpre, List.append_assoc]; rfl, ?_, .dat (.str "memory"), .dat (nI v), rfl⟩
      rw [← List.append_assoc]
  · rintro Ω' δ' ⟨pre, hpre, rfl, a, b, rfl⟩
    obtain rfl : rd = pre := by rw [hpre, List.append_nil]
    refine se_forX c.gates enG (fun r Ω' δ' => ∃ Z pre, c.gates = pre ++ r ∧ ZOk Z (c.first + pre.length) ∧ Z.left.length ≤ pre.length ∧ r.foldl Sens.next Z = initN c rd ∧ Ω' = Wd.sym S H [x] (senC P w CS x t l n Z) ∧ ∃ a b a' b', δ' = [.raw (.ref x), .dat (enC c), .dat (.list (rd.map enR)), .un, a, b, a', b', .un]) (es_list (ee_op (ee_dat rfl (ee_lit (n_ixT rfl rfl ⟨_, rfl, rfl, ⟨_, [], rfl, ?_, Nat.zero_le _, rfl, rfl, a, b, .un, .un, rfl⟩, ?_, ?_⟩)))))
    · refine ⟨?_, fun e he => (nomatch he), fun v hv => ?_⟩
      · show ((List.range c.ins).map Sn.pl ++ rd).length = _
        rw [List.length_append, List.length_map, List.length_range, hl]
        rfl
      · rcases List.mem_append.mp hv with hv | hv
        · obtain ⟨_, _, z⟩ := List.mem_map.mp hv
          cases z
        · exact hb v hv
    · rintro - g r Ω' δ' - ⟨Z, pre, hpre, hz, hzl, hf, rfl, a, b, a', b', rfl⟩
      have hg : c.gates[pre.length]? = some g := by rw [hpre, List.getElem?_append_right (Nat.le_refl _), Nat.sub_self]; rfl
      have hpl : pre.length < c.gates.length := (List.getElem?_eq_some_iff.mp hg).1
      obtain ⟨g1, g2, g3⟩ := hc.gate _ _ hg
      have hs : HasS P w CS (Wd.sym S H [x] (senC P w CS x t l n Z)) x t l n Z := has_sen rfl rfl rfl rfl
      have hget : ∀ p ∈ g.2, (Z.told.map enS)[p]? = some (enS (Z.say p)) := fun p hp => by
        have : p < Z.told.length := by rw [hz.len]; exact g3 p hp
        rw [List.getElem?_map, Sens.say, List.getD_eq_getElem?_getD, List.getElem?_eq_getElem this]
        rfl
      have hfst : c.first = c.ins + c.mems.length := rfl
      refine ⟨_, gs_tup2, ?_⟩
      refine se_appendC (ee_told ks (ee_raw rfl ⟨x, t, l, n, Z, rfl, hs, t, _, rfl, hs.h1, ?_⟩))
      refine ee_methG (hr := fun i r cs hp j => by rw [hp.1]; exact fun z => nomatch z) (ee_raw rfl ⟨x, rfl, mth_of hs.h0 (by decide), ea_cons (ee_dat rfl (ea_cons (ee_new (en_mapX g.2 nI (fun p => enS (Z.say p)) (es_tup (ee_dat rfl ⟨_, rfl, rfl, rfl, ?_, ?_, ?_⟩))))))⟩)
      · exact Nat.lt_of_le_of_lt g1 (by decide)
      · intro p hp
        exact ⟨_, gs_name, rfl, ee_op (ee_told ks (ee_raw rfl ⟨x, t, l, n, Z, rfl, hs, ee_dat rfl (o2_ixH hs.h1 rfl (hget p hp) ⟨rfl, rfl, rfl⟩)⟩))⟩
      · refine ea_nil ⟨⟨x, t, l, n, Z, g.1, g.2.map Z.say⟩, S, H, _, [], rfl, ?_, ?_, ?_, ?_⟩
        · dsimp only
          rw [List.map_map]
          rfl
        · intro r' hr' j
          simp at hr'
          rcases hr' with rfl | rfl | rfl <;> exact fun z => nomatch z
        · intro S' H' _ _
          refine ⟨⟨by rw [List.length_map]; omega, fun v hv => ?_⟩, by rw [hz.len]; exact hz.left, by show Z.left.length < 1000; omega⟩
          obtain ⟨p, hp, e⟩ := List.mem_map.mp hv
          have := hz.bits v (by rw [← e]; exact say_mem (by rw [hz.len]; exact g3 p hp))
          omega
        · rintro r' cs - ⟨rfl, rfl⟩
          dsimp only
          have et : (Z.senseOf g.1 (g.2.map Z.say)).2.told = Z.told := fin_told _ _
          have en : Z.next g = { (Z.senseOf g.1 (g.2.map Z.say)).2 with told := (Z.senseOf g.1 (g.2.map Z.say)).2.told ++ [(Z.senseOf g.1 (g.2.map Z.say)).1] } := by rw [et]; rfl
          refine ⟨S, H, _, _, 1, _, _, rfl, rfl, rfl, ?_, ?_⟩
          · rw [et, List.length_map, hz.len]
            exact Nat.lt_of_le_of_lt (show c.first + pre.length ≤ 300 by omega) (by decide)
          · rw [List.append_nil, set_one, ← en]
            refine ⟨Z.next g, pre ++ [g], by rw [hpre, List.append_assoc]; rfl, ?_, ?_, hf, rfl, a, b, .dat (nI g.1), .dat (nT g.2), rfl⟩
            · rw [List.length_append, ← Nat.add_assoc]
              exact next_ok hz g2
            · have := next_left_len Z g
              rw [List.length_append]
              simp
              omega
    · rintro Ω' δ' ⟨Z, pre, hpre, hz, hzl, hf, rfl, a, b, a', b', rfl⟩
      cases hf
      exact ⟨_, rfl, rfl, t, l, n, rfl⟩

end
end G
set_option Elab.async false
set_option linter.all false
set_option maxRecDepth 100000
set_option maxHeartbeats 4000000
set_option autoImplicit false
namespace G
open PySem PySem.Spec PyProof.Rows L2 D M
local macro_rules | `(tactic| walk_at "d1") => `(tactic| first
  | (with_reducible refine se_seq ?_)
  | (with_reducible refine se_next ?_)
  | (with_reducible refine se_set ?_)
  | (with_reducible refine se_retD ?_)
  | (with_reducible refine se_if ?_)
  | (with_reducible refine ee_lit ?_)
  | (with_reducible refine ee_int ?_)
  | (with_reducible refine ee_str ?_)
  | (with_reducible refine ee_bl ?_)
  | (with_reducible refine ee_non ?_)
  | (with_reducible refine ee_op ?_)
  | (with_reducible refine ee_tup ?_)
  | (with_reducible refine ee_cb ?_)
  | (with_reducible refine et_test ?_)
  | (with_reducible refine ea_nil ?_)
  | (with_reducible refine ea_cons ?_)
  | ((with_reducible refine' ee_dat ?e ?_); (case e => rfl))
  | ((with_reducible refine' ee_own ?e ?_); (case e => rfl))
  | ((with_reducible refine' ee_raw ?e ?_); (case e => rfl))
  | ((with_reducible refine' n_and ?ha ?hb ?_); (case ha => rfl); (case hb => rfl))
  | ((with_reducible refine' n_or ?ha ?hb ?_); (case ha => rfl); (case hb => rfl))
  | ((with_reducible refine' n_xor ?ha ?hb ?_); (case ha => rfl); (case hb => rfl))
  | ((with_reducible refine' n_add ?ha ?hb ?_); (case ha => rfl); (case hb => rfl))
  | ((with_reducible refine' n_sub ?ha ?hb ?hc ?_); (case ha => rfl); (case hb => rfl); (case hc => first | omega | assumption | decide))
  | ((with_reducible refine' n_mul ?ha ?hb ?hc ?_); (case ha => rfl); (case hb => rfl); (case hc => first | omega | assumption | decide))
  | ((with_reducible refine' n_shr ?ha ?hb ?_); (case ha => rfl); (case hb => rfl))
  | ((with_reducible refine' n_shl ?ha ?hb ?hc ?hd ?_); (case ha => rfl); (case hb => rfl); (case hc => first | omega | assumption | decide); (case hd => first | omega | assumption | decide))
  | ((with_reducible refine' n_lt ?ha ?hb ?_); (case ha => rfl); (case hb => rfl))
  | ((with_reducible refine' n_gt ?ha ?hb ?_); (case ha => rfl); (case hb => rfl))
  | ((with_reducible refine' n_eq ?ha ?hb ?_); (case ha => rfl); (case hb => rfl))
  | ((with_reducible refine' n_ne ?ha ?hb ?_); (case ha => rfl); (case hb => rfl))
  | (with_reducible refine ⟨_, rfl, ?_⟩)
  | (with_reducible refine ⟨_, _, rfl, ?_⟩)
  | (with_reducible refine ⟨_, _, _, rfl, ?_⟩)
  | (with_reducible refine ⟨_, _, _, _, rfl, ?_⟩)
  | exact ⟨rfl, _, rfl, rfl⟩)
local macro_rules | `(tactic| walk_at "d") => `(tactic| (repeat (walk_at "d1")))
section
variable {P : Program} {w : World} {K : PySem.W.Frag} {mg : Str → Option Value} {base : Heap}
def kR : Sn → List NK
  | .bit b => [.text "bit", .num b]
  | .pl p => [.text "memory", .num p]
abbrev kM (m : Sn × Sn) : List NK := [.tup (kR m.1), .tup (kS m.2)]
theorem enR_k (s : Sn) : enR s = .tuple (NestedKey.datas (kR s)) := by
  cases s <;> simp [enR, kR, NestedKey.datas, NestedKey.data]
theorem enM_k (m : Sn × Sn) : PyData.tuple [enR m.1, enS m.2] = .tuple (NestedKey.datas (kM m)) := by
  rw [enR_k, enS_k]
  simp [kM, NestedKey.datas, NestedKey.data]
theorem bitm_ne : ¬ (Str.ofString "bit" = Str.ofString "memory") := by decide
theorem kR_inj {s t : Sn} (h : kR s = kR t) : s = t := by
  cases s <;> cases t <;> simp [kR, bitm_ne, mem_ne] at h <;> rw [Int.ofNat_inj.mp h]
theorem kM_inj {s t : Sn × Sn} (h : NestedKey.tup (kM s) = NestedKey.tup (kM t)) : s = t := by
  obtain ⟨a, b⟩ := s
  obtain ⟨a', b'⟩ := t
  injection h with h
  injection h with h1 h2
  injection h1 with h1
  injection h2 with h2 _
  injection h2 with h2
  exact Prod.ext (kR_inj h1) (kS_inj h2)
theorem kM_depth (m : Sn × Sn) : (NestedKey.tup (kM m)).depth ≤ 8 := by
  obtain ⟨a, b⟩ := m
  cases a <;> cases b <;> simp [kM, kR, kS, NestedKey.depth, NestedKey.depthAll]
theorem lookD_putD (kvs : List (NK × PyData)) (k k' : NK) (d : PyData) : lookD (putD kvs k d) k' = if k' = k then some d else lookD kvs k' := by
  unfold putD
  by_cases h : (kvs.any fun e => decide (e.1 = k)) = true
  · rw [if_pos h]
    induction kvs with
    | nil => simp at h
    | cons e r ih =>
      by_cases he : e.1 = k
      · by_cases hk : k' = k
        · subst hk
          rw [if_pos rfl]
          simp [lookD, he]
        · rw [if_neg hk]
          have h1 : ¬ e.1 = k' := fun z => hk (z.symm.trans he)
          by_cases hr : (r.any fun e => decide (e.1 = k)) = true
          · have := ih hr
            rw [if_neg hk] at this
            simp only [lookD, List.map_cons, if_pos he, List.find?_cons, decide_eq_false h1] at this ⊢
            exact this
          · have e2 : r.map (fun e => if e.1 = k then (e.1, d) else e) = r := by
              refine (List.map_congr_left (g := id) fun x hx => ?_).trans (List.map_id r)
              rw [if_neg fun z => hr (List.any_eq_true.mpr ⟨x, hx, by simpa using z⟩)]
              rfl
            rw [List.map_cons, e2, if_pos he]
            simp only [lookD, List.find?_cons, decide_eq_false h1]
      · have hr : (r.any fun e => decide (e.1 = k)) = true := by
          rw [List.any_cons, decide_eq_false he, Bool.false_or] at h
          exact h
        have := ih hr
        rw [List.map_cons, if_neg he]
        by_cases h1 : e.1 = k'
        · have hk : ¬ k' = k := fun z => he (h1.trans z)
          rw [if_neg hk]
          simp [lookD, h1]
        · simp only [lookD, List.find?_cons, decide_eq_false h1] at this ⊢
          exact this
  · rw [if_neg h]
    have hn : ∀ e ∈ kvs, ¬ e.1 = k := fun e he z => h (List.any_eq_true.mpr ⟨e, he, by simpa using z⟩)
    unfold lookD
    rw [List.find?_append]
    by_cases hk : k' = k
    · subst hk
      rw [if_pos rfl, List.find?_eq_none.mpr fun e he => by simpa using hn e he]
      simp
    · rw [if_neg hk]
      have h1 : ¬ k = k' := fun z => hk z.symm
      cases kvs.find? fun e => decide (e.1 = k') with
      | none => simp [h1]
      | some e => rfl
theorem putD_len (kvs : List (NK × PyData)) (k : NK) (d : PyData) : (putD kvs k d).length ≤ kvs.length + 1 := by
  unfold putD
  split
  · rw [List.length_map]; omega
  · rw [List.length_append]; exact Nat.le_refl _
theorem idxOf_first {α : Type} [BEq α] [LawfulBEq α] {ms : List α} {i : Nat} {m : α} (h : ms[i]? = some m) (hn : m ∉ ms.take i) : ms.idxOf m = i := by
  obtain ⟨hi, hm⟩ := List.getElem?_eq_some_iff.mp h
  have e : ms = ms.take i ++ m :: ms.drop (i + 1) := by
    rw [← hm, List.getElem_cons_drop, List.take_append_drop]
  rw [e, List.idxOf_append, if_neg hn, List.idxOf_cons_self, List.length_take]
  omega
def sameB (m : Sn × Sn) : Bool := match m.1 with
  | .bit b => decide (m.2 = .bit b)
  | .pl _ => false
theorem label_eq (a : Nat) (ms : List (Sn × Sn)) (m : Sn × Sn) : labelN a ms m = if sameB m = true then m.1 else .pl (a + ms.idxOf m) := by
  obtain ⟨x, y⟩ := m
  cases x with
  | bit b =>
    by_cases h : y = .bit b
    · simp [labelN, sameB, h]
    · simp [labelN, sameB, h]
  | pl p => simp [labelN, sameB]
def isBitB : Sn → Bool
  | .bit _ => true
  | .pl _ => false
theorem same_isBit (a s : Sn) : (isBitB a && sameB (a, s)) = sameB (a, s) := by
  cases a <;> simp [isBitB, sameB]
theorem take_snoc {α : Type} {ms : List α} {i : Nat} {m : α} (h : ms[i]? = some m) : ms.take (i + 1) = ms.take i ++ [m] := by
  rw [List.take_add_one, h]
  rfl
abbrev sp_parted_reading : Sp := spX (fun q : Circ × List Sn => [enC q.1, .list (q.2.map enR)]) (fun q => COk q.1 ∧ q.2.length = q.1.mems.length ∧ ∀ b, Sn.bit b ∈ q.2 → b < 2) (fun q d => d = .list ((partedN q.1 q.2).map enR))
theorem init_ok {c : Circ} (hc : COk c) {rd : List Sn} (hl : rd.length = c.mems.length) (hb : ∀ b, Sn.bit b ∈ rd → b < 2) : ZOk (initN c rd) (c.first + c.gates.length) ∧ (initN c rd).left.length ≤ c.gates.length := by
  have key : ∀ (r pre : List Gate) (Z : Sens), c.gates = pre ++ r → ZOk Z (c.first + pre.length) → Z.left.length ≤ pre.length → ZOk (r.foldl Sens.next Z) (c.first + c.gates.length) ∧ (r.foldl Sens.next Z).left.length ≤ c.gates.length := by
    intro r
    induction r with
    | nil =>
      intro pre Z e h1 h2
      rw [List.append_nil] at e
      rw [e]
      exact ⟨h1, h2⟩
    | cons g r ih =>
      intro pre Z e h1 h2
      have hg : c.gates[pre.length]? = some g := by rw [e, List.getElem?_append_right (Nat.le_refl _), Nat.sub_self]; rfl
      refine ih (pre ++ [g]) (Z.next g) (by rw [e, List.append_assoc]; rfl) ?_ ?_
      · rw [List.length_append, ← Nat.add_assoc]
        exact next_ok h1 (hc.gate _ _ hg).2.1
      · have := next_left_len Z g
        rw [List.length_append]
        simp
        omega
  refine key c.gates [] _ rfl ⟨?_, fun e he => (nomatch he), fun v hv => ?_⟩ (Nat.zero_le _)
  · show ((List.range c.ins).map Sn.pl ++ rd).length = _
    rw [List.length_append, List.length_map, List.length_range, hl]
    rfl
  · rcases List.mem_append.mp hv with hv | hv
    · obtain ⟨_, _, z⟩ := List.mem_map.mp hv
      cases z
    · exact hb v hv

theorem ee_parted_reading {Ω : Wd} {δ : List AS} {R : KR} {ta : TA} {E : XK} (h : EA P w ta Ω δ fun rs Ω1 δ1 => ∃ (c : Circ) (rd : List Sn), rs = [.dat (enC c), .dat (.list (rd.map enR))] ∧ (COk c ∧ rd.length = c.mems.length ∧ ∀ b, Sn.bit b ∈ rd → b < 2) ∧ R (.dat (.list ((partedN c rd).map enR))) Ω1 δ1) : EE P w (tCall sp_parted_reading [] E ta) Ω δ R :=
  ee_call fun σ S H g Q q => h σ S H g Q fun vs rs Ω' δ' S' H' ⟨c, rd, e, hp, z⟩ => q vs rs Ω' δ' S' H' ⟨(c, rd), e, hp, fun d hd => by subst hd; exact z⟩

abbrev N_parted_reading : List Str := ["circuit", "told", "senses", "fresh", "firsts", "number", "memory", "sense", "mark"]
theorem sc_parted_reading : FnScope N_parted_reading ["circuit", "told"] (defScope s_parted_reading) := ⟨rfl, rfl, rfl, by decide +kernel, rfl, by decide +kernel, by decide +kernel⟩
theorem ok_parted_reading {k : Nat} {f : Addr} {fd : FuncData} (F : FnP K "parted_reading" "parted_reading" s_parted_reading f fd) (T : Fx mg) {CS : Addr} (ks : KS K CS) (c_Senses : CalC P w K mg base k CS "Senses" ["self", "circuit", "reading"] (sp_Senses_init P w CS)) : FnOk P w K mg base CX0 (k + 1) f fd ["circuit", "told"] sp_parted_reading := by
  refine F.ok sc_parted_reading (spX_len fun _ => rfl) (fun cdv A outer s H vs Q E hr hsp => ?_)
  refine ⟨_, PSs.nox (pss_cons (ps_set (i := 2) sc_parted_reading.nd rfl (Or.inl rfl) (pe_fld (pe_ccal c_Senses hr (by rfl) (pa_cons (pv 0) (pa_cons (pv 1) pa_nil))) rfl))
    (pss_cons (ps_set (i := 3) sc_parted_reading.nd rfl (Or.inl rfl) (pe_lst pa_nil))
    (pss_cons (ps_set (i := 4) sc_parted_reading.nd rfl (Or.inl rfl) pe_dnewN)
    (pss_cons (ps_for PassesOwn.never rfl (pi_enum (by rfl) T.enumerate (pa_cons (pe_ix ix_tup (pv 0) pe_int (fun _ _ => rfl)) pa_nil)) (pg_tup rfl (pgs_cons (pg_name (i := 5) sc_parted_reading.nd rfl (Or.inl rfl)) (pgs_cons (pg_name (i := 6) sc_parted_reading.nd rfl (Or.inl rfl)) pgs_nil)))
    (pss_cons (ps_set (i := 7) sc_parted_reading.nd rfl (Or.inl rfl) (pe_ix ix_list (pv 2) (pe_ix ix_tup (pv 6) pe_int (fun _ _ => rfl)) (fun _ _ => rfl)))
    (pss_one (ps_if (PW.pt (pw_and (pt_cmpR (op_eqD hr.units) (pe_ix ix_tup (pe_ix ix_list (pv 1) (pv 5) (fun _ _ => rfl)) pe_int (fun _ _ => rfl)) pe_str (nomark _)) (pw_and1 (pt_cmpR (op_eqD hr.units) (pe_ix ix_list (pv 1) (pv 5) (fun _ _ => rfl)) (pv 7) (nomark _)))))
    (pss_one (ps_expr (pe_bm PySem.F.plainAttrs_list PySem.F.slot_list_append PySem.F.type_list_append mt_append (pv 3) (pa_cons (pe_ix ix_list (pv 1) (pv 5) (fun _ _ => rfl)) pa_nil))))
    (pss_cons (ps_set (i := 8) sc_parted_reading.nd rfl (Or.inl rfl) (pe_tup (pa_cons (pe_ix ix_list (pv 1) (pv 5) (fun _ _ => rfl)) (pa_cons (pv 7) pa_nil))))
    (pss_cons (ps_if (pt_cmp (pc_nnotin hr (pv 8) (pv 4)))
    (pss_one (ps_nput hr (pv 4) (pv 8) (pe_op op_add (pe_ix ix_tup (pv 0) pe_int (fun _ _ => rfl)) (pv 5)) rfl))
    pss_nil)
    (pss_one (ps_expr (pe_bm PySem.F.plainAttrs_list PySem.F.slot_list_append PySem.F.type_list_append mt_append (pv 3) (pa_cons (pe_tup (pa_cons pe_str (pa_cons (pe_nget hr (pv 4) (pv 8) (fun _ _ => rfl)) pa_nil))) pa_nil))))))))))
    (pss_one (ps_ret (pv 3))))))), ?_⟩
  refine run_spXS (P := P) (w := w) hsp ?_
  rintro ⟨c, rd⟩ S H ⟨hc, hl, hb⟩
  dsimp only at hc hl hb ⊢
  have hins := hc.ins
  have hgs := hc.gates
  have hms := hc.mems
  obtain ⟨hz, hzl⟩ := init_ok hc hl hb
  generalize hZ : initN c rd = Z at hz hzl
  refine se_seq (se_setV (ee_told ks (ee_make (ea_cons (ee_dat rfl (ea_cons (ee_dat rfl (ea_nil ⟨S, H, [], [], rfl, fun x => ⟨⟨x, c, rd⟩, rfl, ?_, rfl, fun _ _ _ _ => ⟨hc, hl, hb⟩, fun _ _ _ _ _ _ h => h, ?_⟩⟩))))))))
  · intro r' hr' j
    simp at hr'
    rcases hr' with rfl | rfl | rfl <;> exact fun z => nomatch z
  rintro r cs' ⟨rfl, t, l, n, rfl⟩
  dsimp only
  rw [hZ]
  have hs : HasS P w CS (Wd.sym S H [] (senC P w CS x t l n Z ++ [])) x t l n Z := has_sen rfl rfl rfl rfl
  refine ⟨rfl, x, t, l, n, Z, rfl, hs, _, rfl, ?_⟩
  refine se_seq (se_setN (en_lst (ea_nil ⟨[], rfl, by decide, (by show (3 : Nat) < 9; decide), ?_⟩)))
  refine se_seq (se_setDic (by show (4 : Nat) < 9; decide) ?_)
  have hme : marksN c rd = rd.zip (c.mems.map fun m => Z.say m.2) := by unfold marksN; rw [hZ]
  have hml : (marksN c rd).length = c.mems.length := by rw [hme, List.length_zip, List.length_map]; omega
  have hpe : partedN c rd = (marksN c rd).map (labelN c.ins (marksN c rd)) := rfl
  rw [hpe]
  have hm : ∀ (i : Nat) (m : Nat × Nat), c.mems[i]? = some m → ∃ a, rd[i]? = some a ∧ (marksN c rd)[i]? = some (a, Z.say m.2) := fun i m h => by
    have hi : i < rd.length := by rw [hl]; exact (List.getElem?_eq_some_iff.mp h).1
    refine ⟨rd[i], List.getElem?_eq_getElem hi, ?_⟩
    rw [hme, List.getElem?_zip_eq_some]
    exact ⟨List.getElem?_eq_getElem hi, by rw [List.getElem?_map, h]; rfl⟩
  generalize marksN c rd = ms at hml hm
  refine se_seq (se_forX c.mems.zipIdx (fun q => .tuple [nI q.2, enM q.1]) (fun r Ω' δ' => ∃ pre, c.mems.zipIdx = pre ++ r ∧ Ω' = Wd.sym S H [] (senC P w CS x t l n Z ++ []) ∧ ∃ kvs a b a' b', kvs.length ≤ pre.length ∧
    (∀ m, lookD kvs (.tup (kM m)) = if m ∈ ms.take pre.length ∧ sameB m = false then some (nI (c.ins + ms.idxOf m)) else none) ∧
    δ' = [.dat (enC c), .dat (.list (rd.map enR)), .raw (.ref t), .own (((ms.take pre.length).map (labelN c.ins ms)).map enR), .dic kvs, a, b, a', b']) (es_enum (ea_cons (ee_op (ee_dat rfl (ee_lit (n_ixT rfl rfl (ea_nil ⟨_, rfl, enumD_map _ _, ⟨[], rfl, rfl, [], .un, .un, .un, .un, Nat.le_refl _, fun m => rfl, rfl⟩, ?_, ?_⟩))))))))
  · rintro - ⟨m, i⟩ r Ω' δ' - ⟨pre, hpre, rfl, kvs, p1, p2, p3, p4, hkl, hk, rfl⟩
    have hi0 : c.mems.zipIdx[pre.length]? = some (m, i) := by rw [hpre, List.getElem?_append_right (Nat.le_refl _), Nat.sub_self]; rfl
    rw [List.getElem?_zipIdx] at hi0
    obtain ⟨m', hm', e⟩ := Option.map_eq_some_iff.mp hi0
    simp at e
    obtain ⟨rfl, rfl⟩ := e
    have hpl : pre.length < c.mems.length := (List.getElem?_eq_some_iff.mp hm').1
    obtain ⟨a, ha, hmk⟩ := hm _ _ hm'
    have hm2 : m'.2 < Z.told.length := by rw [hz.len]; exact (hc.mem m' (List.mem_of_getElem? hm')).2
    have hget : (Z.told.map enS)[m'.2]? = some (enS (Z.say m'.2)) := by
      rw [List.getElem?_map, Sens.say, List.getD_eq_getElem?_getD, List.getElem?_eq_getElem hm2]
      rfl
    have hga : (rd.map enR)[pre.length]? = some (enR a) := by rw [List.getElem?_map, ha]; rfl
    refine ⟨_, gs_tup2, ?_⟩
    refine se_seq (se_set (ee_op (ee_raw rfl (ee_op (ee_dat rfl (ee_lit (n_ixT rfl rfl (o2_ixH hs.h1 rfl hget ⟨_, rfl, ?_⟩))))))))
    generalize hS : Z.say m'.2 = sn at hmk
    have hpre2 : c.mems.zipIdx = (pre ++ [(m', pre.length)]) ++ r := by rw [hpre, List.append_assoc]; rfl
    have hlen2 : (pre ++ [(m', pre.length)]).length = pre.length + 1 := by rw [List.length_append]; rfl
    have hsz : (((ms.take pre.length).map (labelN c.ins ms)).map enR).length < sizeLine := by
      rw [List.length_map, List.length_map, List.length_take]
      exact Nat.lt_of_le_of_lt (show min pre.length ms.length ≤ 100 by omega) (by decide)
    refine se_if (et_andB (p := isBitB a) (q := sameB (a, sn)) ?_ (fun hp => ?_) ⟨fun hb => ?_, fun hb => ?_⟩)
    · refine et_test (ee_op (ee_op (ee_op (ee_dat rfl (ee_dat rfl (n_ixL rfl hga ?_))))))
      cases a with
      | bit b => exact ee_lit (n_ixT rfl rfl (ee_str (n_eqS sh_bit sh_bit ⟨_, rfl, by simp [isBitB], rfl, rfl⟩)))
      | pl b => exact ee_lit (n_ixT rfl rfl (ee_str (n_eqS sh_mem sh_bit ⟨_, rfl, by simp [isBitB, mem_ne], rfl, rfl⟩)))
    · cases a with
      | pl b => cases hp
      | bit b =>
        refine et_test (ee_op (ee_op (ee_dat rfl (ee_dat rfl (n_ixL rfl hga (ee_dat rfl (o2_eqD (sh_enS (.bit b)) (sh_enS sn) ⟨_, rfl, ?_, rfl, rfl⟩)))))))
        rw [show PyData.eqv (enR (.bit b)) (enS sn) = decide (Sn.bit b = sn) from eqv_enS (.bit b) sn]
        by_cases h : Sn.bit b = sn
        · simp [sameB, h.symm]
        · have h' : ¬ sn = Sn.bit b := fun z => h z.symm
          simp [sameB, h, h']
    · rw [same_isBit] at hb
      refine se_append rfl (ee_op (ee_dat rfl (ee_dat rfl (n_ixL rfl hga ⟨_, ((ms.take pre.length).map (labelN c.ins ms)).map enR, rfl, rfl, hsz, pre ++ [(m', pre.length)], hpre2, rfl, kvs, .dat (nI pre.length), .dat (enM m'), .dat (enS sn), p4, ?_, ?_, ?_⟩))))
      · rw [hlen2]; omega
      · intro m
        rw [hlen2, take_snoc hmk, hk m]
        by_cases hm3 : sameB m = false
        · have : m ≠ (a, sn) := fun z => by rw [z, hb] at hm3; cases hm3
          simp [this]
        · simp [hm3]
      · rw [hlen2, take_snoc hmk, List.map_append, List.map_append]
        have e : labelN c.ins ms (a, sn) = a := by rw [label_eq, if_pos hb]
        show _ = [_, _, _, AS.own (_ ++ [enR (labelN c.ins ms (a, sn))]), _, _, _, _, _]
        rw [e]
        rfl
    · rw [same_isBit] at hb
      have hmkk : PyData.tuple [enR a, enS sn] = .tuple (NestedKey.datas (kM (a, sn))) := enM_k (a, sn)
      refine se_seq (se_set (ee_tup (ea_cons (ee_op (ee_dat rfl (ee_dat rfl (n_ixL rfl hga (ea_cons (ee_dat rfl (ea_nil ⟨[_, _], rfl, (by show 2 ≤ sizeLine; decide), _, rfl, ?_⟩))))))))))
      rw [hmkk]
      have lbl : labelN c.ins ms (a, sn) = .pl (c.ins + ms.idxOf (a, sn)) := by rw [label_eq, if_neg (by rw [hb]; decide)]
      refine se_seq (se_if (et_B (ee_nin (ee_dat rfl (ee_dic rfl ⟨kvs, kM (a, sn), rfl, rfl, kM_depth _, _, rfl, fun hb2 => ?_, fun hb2 => ?_⟩)))))
      · have hno : lookD kvs (.tup (kM (a, sn))) = none := by
          rw [if_pos rfl] at hb2
          simpa using hb2
        have hnt : (a, sn) ∉ ms.take pre.length := fun z => by
          rw [hk, if_pos ⟨z, hb⟩] at hno
          cases hno
        have hix : ms.idxOf (a, sn) = pre.length := idxOf_first hmk hnt
        refine se_nputO (ee_op (ee_op (ee_dat rfl (ee_lit (n_ixT rfl rfl (ee_dat rfl (n_add rfl rfl (ee_dic rfl (ee_dat rfl ⟨_, kvs, kM (a, sn), rfl, rfl, rfl, rfl, kM_depth _, ?_, ?_⟩)))))))))
        · exact Nat.lt_of_le_of_lt (show kvs.length ≤ 100 by omega) (by decide)
        have hlk : lookD (putD kvs (.tup (kM (a, sn))) (.int ((c.ins + pre.length : Nat) : Int))) (.tup (kM (a, sn))) = some (nI (c.ins + ms.idxOf (a, sn))) := by
          rw [lookD_putD, if_pos rfl, hix]
        have hinv : ∀ m, lookD (putD kvs (.tup (kM (a, sn))) (.int ((c.ins + pre.length : Nat) : Int))) (.tup (kM m)) = if m ∈ ms.take (pre ++ [(m', pre.length)]).length ∧ sameB m = false then some (nI (c.ins + ms.idxOf m)) else none := by
          intro m
          rw [hlen2, take_snoc hmk, lookD_putD, hk m]
          by_cases e : m = (a, sn)
          · rw [e, if_pos rfl, if_pos ⟨by simp, hb⟩, hix]
          · rw [if_neg fun z => e (kM_inj z)]
            simp [e]
        refine se_append rfl (ee_tup (ea_cons (ee_str (ea_cons (ee_nget ?_)))))
        refine ee_dic rfl ?_
        refine ee_dat rfl ?_
        refine ⟨_, kM (a, sn), nI (c.ins + ms.idxOf (a, sn)), rfl, rfl, kM_depth _, hlk, ?_⟩
        refine ea_nil ⟨[_, _], rfl, (by show 2 ≤ sizeLine; decide), _, ((ms.take pre.length).map (labelN c.ins ms)).map enR, rfl, rfl, hsz, pre ++ [(m', pre.length)], hpre2, rfl, _, .dat (nI pre.length), .dat (enM m'), .dat (enS sn), .dat (.tuple (NestedKey.datas (kM (a, sn)))), ?_, hinv, ?_⟩
        · rw [hlen2]
          have := putD_len kvs (.tup (kM (a, sn))) (.int ((c.ins + pre.length : Nat) : Int))
          omega
        · rw [hlen2, take_snoc hmk, List.map_append, List.map_append, List.map_singleton, lbl]
          rfl
      · have hin : (a, sn) ∈ ms.take pre.length := by
          rw [if_pos rfl, hk] at hb2
          by_cases z : (a, sn) ∈ ms.take pre.length
          · exact z
          · rw [if_neg fun y => z y.1] at hb2
            cases hb2
        refine se_next ?_
        have hlk : lookD kvs (.tup (kM (a, sn))) = some (nI (c.ins + ms.idxOf (a, sn))) := by rw [hk, if_pos ⟨hin, hb⟩]
        have hinv : ∀ m, lookD kvs (.tup (kM m)) = if m ∈ ms.take (pre ++ [(m', pre.length)]).length ∧ sameB m = false then some (nI (c.ins + ms.idxOf m)) else none := by
          intro m
          rw [hlen2, take_snoc hmk, hk m]
          by_cases e : m = (a, sn)
          · rw [e, if_pos ⟨hin, hb⟩, if_pos ⟨by simp, hb⟩]
          · simp [e]
        refine se_append rfl (ee_tup (ea_cons (ee_str (ea_cons (ee_nget ?_)))))
        refine ee_dic rfl ?_
        refine ee_dat rfl ?_
        refine ⟨_, kM (a, sn), nI (c.ins + ms.idxOf (a, sn)), rfl, rfl, kM_depth _, hlk, ?_⟩
        refine ea_nil ⟨[_, _], rfl, (by show 2 ≤ sizeLine; decide), _, ((ms.take pre.length).map (labelN c.ins ms)).map enR, rfl, rfl, hsz, pre ++ [(m', pre.length)], hpre2, rfl, _, .dat (nI pre.length), .dat (enM m'), .dat (enS sn), .dat (.tuple (NestedKey.datas (kM (a, sn)))), ?_, hinv, ?_⟩
        · rw [hlen2]
          omega
        · rw [hlen2, take_snoc hmk, List.map_append, List.map_append, List.map_singleton, lbl]
          rfl
  · rintro Ω' δ' ⟨pre, hpre, rfl, kvs, p1, p2, p3, p4, hkl, hk, rfl⟩
    have e : ms.take pre.length = ms := by
      have : pre.length = c.mems.length := by
        rw [List.append_nil] at hpre
        rw [← hpre, List.length_zipIdx]
      exact List.take_of_length_le (by omega)
    rw [e]
    exact se_freeze (i := 3) rfl (se_retD (ee_dat rfl ⟨_, rfl, ⟨_, rfl⟩, _, rfl, rfl⟩))

end
end G
set_option autoImplicit false
/-! The widest kept reading: its search ends. -/
namespace M
theorem label_inj {a : Nat} {ms : List (Sn × Sn)} {m m' : Sn × Sn} (h1 : m ∈ ms) (h2 : m' ∈ ms) (h : labelN a ms m = labelN a ms m') : m = m' := by
  have inj : a + ms.idxOf m = a + ms.idxOf m' → m = m' := fun e => by
    have e : ms.idxOf m = ms.idxOf m' := by omega
    have l1 := List.idxOf_lt_length_iff.mpr h1
    have l2 := List.idxOf_lt_length_iff.mpr h2
    have g1 := List.getElem_idxOf l1
    have g2 := List.getElem_idxOf l2
    rw [← g1, ← g2]
    congr 1
  obtain ⟨x, y⟩ := m
  obtain ⟨x', y'⟩ := m'
  cases x with
  | bit b =>
    cases x' with
    | bit b' =>
      by_cases e1 : y = .bit b
      · by_cases e2 : y' = .bit b'
        · simp only [labelN, if_pos e1, if_pos e2] at h
          injection h with h
          subst h e1 e2
          rfl
        · simp only [labelN, if_pos e1, if_neg e2] at h
          cases h
      · by_cases e2 : y' = .bit b'
        · simp only [labelN, if_neg e1, if_pos e2] at h
          cases h
        · simp only [labelN, if_neg e1, if_neg e2] at h
          injection h with h
          exact inj h
    | pl p' =>
      by_cases e1 : y = .bit b
      · simp only [labelN, if_pos e1] at h
        cases h
      · simp only [labelN, if_neg e1] at h
        injection h with h
        exact inj h
  | pl p =>
    cases x' with
    | bit b' =>
      by_cases e2 : y' = .bit b'
      · simp only [labelN, if_pos e2] at h
        cases h
      · simp only [labelN, if_neg e2] at h
        injection h with h
        exact inj h
    | pl p' =>
      simp only [labelN] at h
      injection h with h
      exact inj h
theorem label_bit {a : Nat} {ms : List (Sn × Sn)} {m : Sn × Sn} {b : Nat} (h : labelN a ms m = .bit b) : m = (.bit b, .bit b) := by
  obtain ⟨x, y⟩ := m
  cases x with
  | bit b' =>
    by_cases e1 : y = .bit b'
    · simp only [labelN, if_pos e1] at h
      injection h with h
      rw [e1, h]
    · simp only [labelN, if_neg e1] at h
      cases h
  | pl p =>
    simp only [labelN] at h
    cases h
theorem label_pl {a : Nat} {ms : List (Sn × Sn)} {m : Sn × Sn} {w : Nat} (h : labelN a ms m = .pl w) : w = a + ms.idxOf m := by
  obtain ⟨x, y⟩ := m
  cases x with
  | bit b' =>
    by_cases e1 : y = .bit b'
    · simp only [labelN, if_pos e1] at h
      cases h
    · simp only [labelN, if_neg e1] at h
      injection h with h
      exact h.symm
  | pl p =>
    simp only [labelN] at h
    injection h with h
    exact h.symm
theorem idxOf_map {α β : Type} [BEq α] [LawfulBEq α] [BEq β] [LawfulBEq β] (f : α → β) (m : α) : ∀ ms : List α, (∀ m' ∈ ms, f m' = f m ↔ m' = m) → (ms.map f).idxOf (f m) = ms.idxOf m
  | [], _ => rfl
  | x :: r, h => by
    rw [List.map_cons, List.idxOf_cons, List.idxOf_cons]
    have hx := h x List.mem_cons_self
    by_cases e : x = m
    · rw [e]
      simp
    · have e' : ¬ f x = f m := fun z => e (hx.mp z)
      rw [beq_eq_false_iff_ne.mpr e, beq_eq_false_iff_ne.mpr e']
      exact congrArg (· + 1) (idxOf_map f m r fun m' hm => h m' (List.mem_cons_of_mem _ hm))
def isB : Sn → Nat
  | .bit _ => 1
  | .pl _ => 0
def meas (l : List Sn) : Nat := (l.map fun x => l.count x + isB x).sum
theorem sum_le {α : Type} (f g : α → Nat) : ∀ l : List α, (∀ x ∈ l, f x ≤ g x) → (l.map f).sum ≤ (l.map g).sum ∧ ((l.map f).sum = (l.map g).sum → ∀ x ∈ l, f x = g x)
  | [], _ => ⟨Nat.le_refl _, fun _ x hx => nomatch hx⟩
  | x :: r, h => by
    obtain ⟨h1, h2⟩ := sum_le f g r fun y hy => h y (List.mem_cons_of_mem _ hy)
    have h3 := h x List.mem_cons_self
    rw [List.map_cons, List.map_cons, List.sum_cons, List.sum_cons]
    refine ⟨by omega, fun e y hy => ?_⟩
    rcases List.mem_cons.mp hy with rfl | hy
    · omega
    · exact h2 (by omega) y hy
theorem count_le_map {α β : Type} [BEq α] [LawfulBEq α] [BEq β] [LawfulBEq β] (f : α → β) (m : α) : ∀ ms : List α, ms.count m ≤ (ms.map f).count (f m) ∧ (ms.count m = (ms.map f).count (f m) → ∀ m' ∈ ms, f m' = f m → m' = m)
  | [] => ⟨Nat.le_refl _, fun _ x hx => nomatch hx⟩
  | x :: r => by
    obtain ⟨h1, h2⟩ := count_le_map f m r
    rw [List.map_cons, List.count_cons, List.count_cons]
    by_cases e : x = m
    · have e' : f x = f m := by rw [e]
      rw [if_pos (beq_iff_eq.mpr e), if_pos (beq_iff_eq.mpr e')]
      refine ⟨by omega, fun z y hy hf => ?_⟩
      rcases List.mem_cons.mp hy with rfl | hy
      · exact e
      · exact h2 (by omega) y hy hf
    · rw [if_neg (fun z => e (beq_iff_eq.mp z))]
      by_cases e' : f x = f m
      · rw [if_pos (beq_iff_eq.mpr e')]
        exact ⟨by omega, fun z => by omega⟩
      · rw [if_neg (fun z => e' (beq_iff_eq.mp z))]
        refine ⟨by omega, fun z y hy hf => ?_⟩
        rcases List.mem_cons.mp hy with rfl | hy
        · exact absurd hf e'
        · exact h2 (by omega) y hy hf
theorem count_inj {α β : Type} [BEq α] [LawfulBEq α] [BEq β] [LawfulBEq β] (f : α → β) (m : α) : ∀ ms : List α, (∀ m' ∈ ms, f m' = f m → m' = m) → (ms.map f).count (f m) = ms.count m
  | [], _ => rfl
  | x :: r, h => by
    rw [List.map_cons, List.count_cons, List.count_cons, count_inj f m r fun m' hm => h m' (List.mem_cons_of_mem _ hm)]
    by_cases e : x = m
    · have e' : f x = f m := by rw [e]
      rw [if_pos (beq_iff_eq.mpr e), if_pos (beq_iff_eq.mpr e')]
    · have e' : ¬ f x = f m := fun z => e (h x List.mem_cons_self z)
      rw [if_neg (fun z => e (beq_iff_eq.mp z)), if_neg (fun z => e' (beq_iff_eq.mp z))]
/-- what holds of a reading on the way -/
structure RInv (c : Circ) (told : List Sn) : Prop where
  len : told.length = c.mems.length
  can : ∀ w, Sn.pl w ∈ told → w = c.ins + told.idxOf (.pl w)
  bit : ∀ (i b : Nat), told[i]? = some (Sn.bit b) → (c.mems[i]?).map (·.1) = some b
  one : ∀ (i j : Nat) (x : Sn), told[i]? = some x → told[j]? = some x → (c.mems[i]?).map (·.1) = (c.mems[j]?).map (·.1)
theorem RInv.bits {c : Circ} (hc : COk c) {told : List Sn} (h : RInv c told) : ∀ b, Sn.bit b ∈ told → b < 2 := fun b hb => by
  obtain ⟨i, hi⟩ := List.mem_iff_getElem?.mp hb
  obtain ⟨m, hm, e⟩ := Option.map_eq_some_iff.mp (h.bit i b hi)
  rw [← e]
  exact (hc.mem m (List.mem_of_getElem? hm)).1
theorem marks_len {c : Circ} {told : List Sn} (h : told.length = c.mems.length) : (marksN c told).length = c.mems.length := by
  unfold marksN
  rw [List.length_zip, List.length_map]
  omega
theorem marks_fst {c : Circ} {told : List Sn} (h : told.length = c.mems.length) : (marksN c told).map (·.1) = told := by
  unfold marksN
  rw [List.map_fst_zip (by rw [List.length_map]; omega)]
theorem begins_inv (c : Circ) : RInv c (beginsN c) where
  len := by unfold beginsN; rw [List.length_map]
  can := fun w hw => by
    unfold beginsN at hw
    obtain ⟨_, _, z⟩ := List.mem_map.mp hw
    cases z
  bit := fun i b hi => by
    unfold beginsN at hi
    rw [List.getElem?_map] at hi
    obtain ⟨m, hm, e⟩ := Option.map_eq_some_iff.mp hi
    rw [hm]
    injection e with e
    rw [← e]
    rfl
  one := fun i j x hi hj => by
    unfold beginsN at hi hj
    rw [List.getElem?_map] at hi hj
    obtain ⟨m, hm, e⟩ := Option.map_eq_some_iff.mp hi
    obtain ⟨m', hm', e'⟩ := Option.map_eq_some_iff.mp hj
    rw [hm, hm']
    rw [← e'] at e
    injection e with e
    exact congrArg some e
theorem parted_get {c : Circ} {told : List Sn} {i : Nat} {x : Sn} (h : (partedN c told)[i]? = some x) : ∃ m, (marksN c told)[i]? = some m ∧ labelN c.ins (marksN c told) m = x := by
  unfold partedN at h
  rw [List.getElem?_map] at h
  exact Option.map_eq_some_iff.mp h
theorem marks_told {c : Circ} {told : List Sn} {i : Nat} {m : Sn × Sn} (h : (marksN c told)[i]? = some m) : told[i]? = some m.1 := by
  unfold marksN at h
  exact (List.getElem?_zip_eq_some.mp h).1
theorem parted_inv {c : Circ} {told : List Sn} (h : RInv c told) : RInv c (partedN c told) where
  len := by
    unfold partedN
    rw [List.length_map, marks_len h.len]
  can := fun w hw => by
    unfold partedN at hw ⊢
    obtain ⟨m, hm, e⟩ := List.mem_map.mp hw
    rw [label_pl e, ← label_pl e, ← e, idxOf_map _ m _ fun m' hm' => ⟨fun z => label_inj hm' hm z, fun z => by rw [z]⟩]
    exact label_pl e
  bit := fun i b hi => by
    obtain ⟨m, hm, e⟩ := parted_get hi
    have := marks_told hm
    rw [label_bit e] at this
    exact h.bit i b this
  one := fun i j x hi hj => by
    obtain ⟨m, hm, e⟩ := parted_get hi
    obtain ⟨m', hm', e'⟩ := parted_get hj
    have := label_inj (List.mem_of_getElem? hm) (List.mem_of_getElem? hm') (e.trans e'.symm)
    subst this
    exact h.one i j m.1 (marks_told hm) (marks_told hm')
theorem parted_less {c : Circ} {told : List Sn} (h : RInv c told) : partedN c told = told ∨ meas (partedN c told) < meas told := by
  have e1 : meas (partedN c told) = ((marksN c told).map fun m => (marksN c told).count m + isB (labelN c.ins (marksN c told) m)).sum := by
    unfold meas partedN
    rw [List.map_map]
    congr 1
    refine List.map_congr_left fun m hm => ?_
    show List.count (labelN c.ins (marksN c told) m) _ + _ = _
    rw [count_inj _ m _ fun m' hm' z => label_inj hm' hm z]
  have e2 : meas told = ((marksN c told).map fun m => told.count m.1 + isB m.1).sum := by
    unfold meas
    conv => lhs; rw [← marks_fst h.len]
    rw [List.map_map, marks_fst h.len]
    rfl
  have le : ∀ m ∈ marksN c told, (marksN c told).count m + isB (labelN c.ins (marksN c told) m) ≤ told.count m.1 + isB m.1 := fun m hm => by
    have h1 := (count_le_map (fun q : Sn × Sn => q.1) m (marksN c told)).1
    rw [marks_fst h.len] at h1
    have h2 : isB (labelN c.ins (marksN c told) m) ≤ isB m.1 := by
      cases e : labelN c.ins (marksN c told) m with
      | bit b => rw [label_bit e]; exact Nat.le_refl _
      | pl p => exact Nat.zero_le _
    omega
  obtain ⟨s1, s2⟩ := sum_le _ _ _ le
  by_cases q : meas (partedN c told) = meas told
  · left
    have s3 := s2 (by rw [← e1, ← e2]; exact q)
    have all : ∀ m ∈ marksN c told, labelN c.ins (marksN c told) m = m.1 := fun m hm => by
      have t := s3 m hm
      have h1 := (count_le_map (fun q : Sn × Sn => q.1) m (marksN c told)).1
      have h2 := (count_le_map (fun q : Sn × Sn => q.1) m (marksN c told)).2
      rw [marks_fst h.len] at h1 h2
      cases e : labelN c.ins (marksN c told) m with
      | bit b => rw [label_bit e]
      | pl p =>
        rw [e] at t
        have t0 : isB (.pl p) = 0 := rfl
        have t1 : isB m.1 = 0 := by omega
        have inj := h2 (by omega)
        obtain ⟨x, y⟩ := m
        cases x with
        | bit b => cases t1
        | pl w =>
          have hw : Sn.pl w ∈ told := by
            rw [← marks_fst h.len]
            exact List.mem_map.mpr ⟨_, hm, rfl⟩
          have c1 := h.can w hw
          have c2 := label_pl e
          have c3 := idxOf_map (fun q : Sn × Sn => q.1) (Sn.pl w, y) (marksN c told) fun m' hm' => ⟨fun z => inj m' hm' z, fun z => by rw [z]⟩
          rw [marks_fst h.len] at c3
          have c3 : told.idxOf (.pl w) = (marksN c told).idxOf (Sn.pl w, y) := c3
          show Sn.pl p = Sn.pl w
          rw [c1, c2, c3]
    unfold partedN
    rw [List.map_congr_left all]
    exact marks_fst h.len
  · right
    omega
theorem iter_fix {α : Type} (f : α → α) {x : α} (h : f x = x) : ∀ n, iterN f n x = x
  | 0 => rfl
  | n + 1 => by
    rw [iterN, h]
    exact iter_fix f h n
theorem iter_inv {c : Circ} : ∀ (n : Nat) {told : List Sn}, RInv c told → RInv c (iterN (partedN c) n told)
  | 0, _, h => h
  | n + 1, _, h => iter_inv n (parted_inv h)
theorem iter_kept {c : Circ} : ∀ (n : Nat) {told : List Sn}, RInv c told → meas told ≤ n → partedN c (iterN (partedN c) n told) = iterN (partedN c) n told
  | 0, told, h, hm => by
    rcases parted_less h with e | e
    · exact e
    · omega
  | n + 1, told, h, hm => by
    rcases parted_less h with e | e
    · rw [iter_fix _ e]
      exact e
    · exact iter_kept n (parted_inv h) (by omega)
theorem sum_const_le {α : Type} (f : α → Nat) (k : Nat) : ∀ l : List α, (∀ x ∈ l, f x ≤ k) → (l.map f).sum ≤ l.length * k
  | [], _ => by simp
  | x :: r, h => by
    rw [List.map_cons, List.sum_cons, List.length_cons, Nat.succ_mul]
    have := sum_const_le f k r fun y hy => h y (List.mem_cons_of_mem _ hy)
    have := h x List.mem_cons_self
    omega
theorem meas_le (l : List Sn) : meas l ≤ l.length * l.length + l.length := by
  have := sum_const_le (fun x => l.count x + isB x) (l.length + 1) l fun x _ => by
    have h1 : l.count x ≤ l.length := List.count_le_length
    have h2 : isB x ≤ 1 := by cases x <;> simp [isB]
    omega
  rw [Nat.mul_add, Nat.mul_one] at this
  exact this
theorem widest_inv (c : Circ) : RInv c (widestN c) := iter_inv _ (begins_inv c)
theorem widest_kept (c : Circ) : partedN c (widestN c) = widestN c := by
  refine iter_kept _ (begins_inv c) ?_
  have := meas_le (beginsN c)
  rw [(begins_inv c).len] at this
  exact this
end M
set_option Elab.async false
set_option linter.all false
set_option maxRecDepth 100000
set_option maxHeartbeats 4000000
set_option autoImplicit false
namespace G
open PySem PySem.Spec PyProof.Rows L2 D M
local macro_rules | `(tactic| walk_at "d1") => `(tactic| first
  | (with_reducible refine se_seq ?_)
  | (with_reducible refine se_next ?_)
  | (with_reducible refine se_set ?_)
  | (with_reducible refine se_retD ?_)
  | (with_reducible refine se_if ?_)
  | (with_reducible refine ee_lit ?_)
  | (with_reducible refine ee_int ?_)
  | (with_reducible refine ee_str ?_)
  | (with_reducible refine ee_bl ?_)
  | (with_reducible refine ee_non ?_)
  | (with_reducible refine ee_op ?_)
  | (with_reducible refine ee_tup ?_)
  | (with_reducible refine ee_cb ?_)
  | (with_reducible refine et_test ?_)
  | (with_reducible refine ea_nil ?_)
  | (with_reducible refine ea_cons ?_)
  | ((with_reducible refine' ee_dat ?e ?_); (case e => rfl))
  | ((with_reducible refine' ee_own ?e ?_); (case e => rfl))
  | ((with_reducible refine' ee_raw ?e ?_); (case e => rfl))
  | ((with_reducible refine' n_and ?ha ?hb ?_); (case ha => rfl); (case hb => rfl))
  | ((with_reducible refine' n_or ?ha ?hb ?_); (case ha => rfl); (case hb => rfl))
  | ((with_reducible refine' n_xor ?ha ?hb ?_); (case ha => rfl); (case hb => rfl))
  | ((with_reducible refine' n_add ?ha ?hb ?_); (case ha => rfl); (case hb => rfl))
  | ((with_reducible refine' n_sub ?ha ?hb ?hc ?_); (case ha => rfl); (case hb => rfl); (case hc => first | omega | assumption | decide))
  | ((with_reducible refine' n_mul ?ha ?hb ?hc ?_); (case ha => rfl); (case hb => rfl); (case hc => first | omega | assumption | decide))
  | ((with_reducible refine' n_shr ?ha ?hb ?_); (case ha => rfl); (case hb => rfl))
  | ((with_reducible refine' n_shl ?ha ?hb ?hc ?hd ?_); (case ha => rfl); (case hb => rfl); (case hc => first | omega | assumption | decide); (case hd => first | omega | assumption | decide))
  | ((with_reducible refine' n_lt ?ha ?hb ?_); (case ha => rfl); (case hb => rfl))
  | ((with_reducible refine' n_gt ?ha ?hb ?_); (case ha => rfl); (case hb => rfl))
  | ((with_reducible refine' n_eq ?ha ?hb ?_); (case ha => rfl); (case hb => rfl))
  | ((with_reducible refine' n_ne ?ha ?hb ?_); (case ha => rfl); (case hb => rfl))
  | (with_reducible refine ⟨_, rfl, ?_⟩)
  | (with_reducible refine ⟨_, _, rfl, ?_⟩)
  | (with_reducible refine ⟨_, _, _, rfl, ?_⟩)
  | (with_reducible refine ⟨_, _, _, _, rfl, ?_⟩)
  | exact ⟨rfl, _, rfl, rfl⟩)
local macro_rules | `(tactic| walk_at "d") => `(tactic| (repeat (walk_at "d1")))
section
variable {P : Program} {w : World} {K : PySem.W.Frag} {mg : Str → Option Value} {base : Heap}
/-! data that may be compared -/
def ShK (k : Nat) (d : PyData) : Prop := d.canLay0 = true ∧ d.depth ≤ k
theorem ShK.mono {j k : Nat} {d : PyData} (h : ShK j d) (e : j ≤ k) : ShK k d := ⟨h.1, Nat.le_trans h.2 e⟩
theorem shK_int (k : Nat) (i : Int) : ShK k (.int i) := ⟨by simp [PyData.canLay0], by simp [PyData.depth]⟩
theorem shK_none (k : Nat) : ShK k .none := ⟨by simp [PyData.canLay0], by simp [PyData.depth]⟩
theorem shK_all {k : Nat} : ∀ {ds : List PyData}, (∀ d ∈ ds, ShK k d) → PyData.canLayAll0 ds = true ∧ PyData.depthAll ds ≤ k
  | [], _ => ⟨by simp [PyData.canLayAll0], by simp [PyData.depthAll]⟩
  | d :: ds, h => by
    obtain ⟨h1, h2⟩ := shK_all (ds := ds) fun x hx => h x (List.mem_cons_of_mem _ hx)
    obtain ⟨h3, h4⟩ := h d List.mem_cons_self
    refine ⟨by rw [PyData.canLayAll0, h1, h3]; rfl, ?_⟩
    rw [PyData.depthAll]
    exact Nat.max_le.mpr ⟨h4, h2⟩
theorem shK_lst {k : Nat} {ds : List PyData} (h : ∀ d ∈ ds, ShK k d) : ShK (k + 1) (.list ds) := by
  obtain ⟨h1, h2⟩ := shK_all h
  exact ⟨by rw [PyData.canLay0]; exact h1, by rw [PyData.depth]; omega⟩
theorem shK_tup {k : Nat} {ds : List PyData} (h : ∀ d ∈ ds, ShK k d) : ShK (k + 1) (.tuple ds) := by
  obtain ⟨h1, h2⟩ := shK_all h
  exact ⟨by rw [PyData.canLay0]; exact h1, by rw [PyData.depth]; omega⟩
theorem ShK.shaped {k : Nat} {d : PyData} (h : ShK k d) (e : k ≤ 64) : SeqAt.shaped d = true := by
  unfold SeqAt.shaped
  rw [h.1, decide_eq_true (Nat.le_trans h.2 e)]
  rfl
theorem shK_str {x : Str} (k : Nat) (h : SeqAt.shaped (.str x) = true) : ShK k (.str x) := ⟨(Bool.and_eq_true_iff.mp h).1, by simp [PyData.depth]⟩
theorem shK_pair {k : Nat} {a b : PyData} (h1 : ShK k a) (h2 : ShK k b) : ShK (k + 1) (.tuple [a, b]) := shK_tup fun d hd => by
  simp at hd
  rcases hd with rfl | rfl
  · exact h1
  · exact h2
theorem shK_S (s : Sn) : ShK 1 (enS s) := by
  cases s
  · exact shK_pair (shK_str _ sh_bit) (shK_int _ _)
  · exact shK_pair (shK_str _ sh_place) (shK_int _ _)
theorem shK_R (s : Sn) : ShK 1 (enR s) := by
  cases s
  · exact shK_pair (shK_str _ sh_bit) (shK_int _ _)
  · exact shK_pair (shK_str _ sh_mem) (shK_int _ _)
theorem eqv_enR (s t : Sn) : PyData.eqv (enR s) (enR t) = decide (s = t) := by
  cases s with
  | bit b =>
    cases t with
    | bit c => exact eqv_enS (.bit b) (.bit c)
    | pl c =>
      show PyData.eqv (.tuple _) (.tuple _) = _
      rw [eqv_tup, eqvAll_cons, eqv_str]
      simp [bitm_ne]
  | pl b =>
    cases t with
    | bit c =>
      show PyData.eqv (.tuple _) (.tuple _) = _
      rw [eqv_tup, eqvAll_cons, eqv_str]
      simp [mem_ne]
    | pl c =>
      show PyData.eqv (.tuple _) (.tuple _) = _
      rw [eqv_tup, eqvAll_cons, eqvAll_cons, eqvAll_nil, eqv_nI, eqv_str]
      by_cases h : b = c <;> simp [h]
theorem sh_listR (l : List Sn) : SeqAt.shaped (.list (l.map enR)) = true := (shK_lst (k := 1) fun d hd => by
  obtain ⟨s, _, rfl⟩ := List.mem_map.mp hd
  exact shK_R s).shaped (by decide)
abbrev sp_widest : Sp := spX (fun c : Circ => [enC c]) (fun c => COk c) (fun c d => d = .list ((widestN c).map enR))

theorem ee_widest {Ω : Wd} {δ : List AS} {R : KR} {ta : TA} {E : XK} (h : EA P w ta Ω δ fun rs Ω1 δ1 => ∃ (c : Circ), rs = [.dat (enC c)] ∧ COk c ∧ R (.dat (.list ((widestN c).map enR))) Ω1 δ1) : EE P w (tCall sp_widest [] E ta) Ω δ R :=
  ee_call fun σ S H g Q q => h σ S H g Q fun vs rs Ω' δ' S' H' ⟨c, e, hp, z⟩ => q vs rs Ω' δ' S' H' ⟨c, e, hp, fun d hd => by subst hd; exact z⟩

abbrev N_widest : List Str := ["circuit", "told", "begin", "after", "fresh"]
theorem sc_widest : FnScope N_widest ["circuit"] (defScope s_widest) := ⟨rfl, rfl, rfl, by decide +kernel, rfl, by decide +kernel, by decide +kernel⟩
theorem ok_widest {k : Nat} {f : Addr} {fd : FuncData} (F : FnP K "widest" "widest" s_widest f fd) (T : Fx mg) (c_parted_reading : Cal P w K mg base k "parted_reading" ["circuit", "told"] sp_parted_reading) : FnOk P w K mg base CX0 (k + 1) f fd ["circuit"] sp_widest := by
  refine F.ok sc_widest (spX_len fun _ => rfl) (fun cdv A outer s H vs Q E hr hsp => ?_)
  refine ⟨_, PSs.nox (pss_cons (ps_setLc (i := 1) (own := [("begin", 2), ("after", 3)]) (g := gTup K 2 (gCons (gName 2) (gCons (gName 3) gNil))) (by rfl) sc_widest.nd rfl rfl (sw_true rfl rfl rfl (by decide +kernel)) (pi_list (pe_ix ix_tup (pv 0) pe_int (fun _ _ => rfl))) (blkOk_by (own := [("begin", 2), ("after", 3)]) (N := N_widest) (sc := defScope s_widest) (by decide +kernel)) (fun _ _ _ _ _ => pg_tup rfl (pgs_cons (pg_name (i := 2) sc_widest.nd rfl (Or.inl rfl)) (pgs_cons (pg_name (i := 3) sc_widest.nd rfl (Or.inl rfl)) pgs_nil))) (fun _ _ _ _ _ => pts_nil) (fun _ _ _ _ _ => pe_tup (pa_cons pe_str (pa_cons (pv 2) pa_nil))))
    (pss_cons (ps_set (i := 4) sc_widest.nd rfl (Or.inl rfl) (pe_cal c_parted_reading hr (by rfl) (pa_cons (pv 0) (pa_cons (pv 1) pa_nil))))
    (pss_cons (ps_while PassesOwn.never (pt_cmpR (op_neD hr.units) (pv 4) (pv 1) (nomark _))
    (pss_cons (ps_set (i := 1) sc_widest.nd rfl (Or.inl rfl) (pv 4))
    (pss_one (ps_set (i := 4) sc_widest.nd rfl (Or.inl rfl) (pe_cal c_parted_reading hr (by rfl) (pa_cons (pv 0) (pa_cons (pv 1) pa_nil)))))))
    (pss_one (ps_ret (pv 1)))))), ?_⟩
  refine run_spX (P := P) (w := w) hsp ?_
  rintro c S H hc
  dsimp only
  have hc : COk c := hc
  have hms := hc.mems
  have hb0 := begins_inv c
  refine se_seq (se_set (ee_new (en_mapX c.mems enM (fun m => enR (.bit m.1)) (es_list (ee_op (ee_dat rfl (ee_lit (n_ixT rfl rfl ⟨_, rfl, rfl, rfl, ?_, ?_, ?_⟩))))))))
  · exact Nat.lt_of_le_of_lt hms (by decide)
  · intro m hm
    exact ⟨_, gs_tup2, rfl, ee_tup (ea_cons (ee_str (ea_cons (ee_dat rfl (ea_nil ⟨[_, _], rfl, (by show 2 ≤ sizeLine; decide), rfl, rfl, rfl⟩)))))⟩
  have e0 : c.mems.map (fun m => enR (.bit m.1)) = (beginsN c).map enR := by
    unfold beginsN
    rw [List.map_map]
    rfl
  rw [e0]
  refine ⟨_, rfl, ?_⟩
  refine se_seq (se_set (ee_parted_reading (ea_cons (ee_dat rfl (ea_cons (ee_dat rfl (ea_nil ⟨c, beginsN c, rfl, ⟨hc, hb0.len, hb0.bits hc⟩, _, rfl, ?_⟩)))))))
  refine se_seq (se_while (fun m Ω' δ' => Ω' = Wd.frm S H ∧ ∃ told n, RInv c told ∧ meas told ≤ n ∧ widestN c = iterN (partedN c) n told ∧ m = meas told ∧ ∃ a b, δ' = [.dat (enC c), .dat (.list (told.map enR)), a, b, .dat (.list ((partedN c told).map enR))]) (meas (beginsN c)) ⟨rfl, beginsN c, _, hb0, ?_, rfl, rfl, .un, .un, rfl⟩ ?_)
  · have := meas_le (beginsN c)
    rw [hb0.len] at this
    exact this
  · rintro m Ω' δ' ⟨rfl, told, n, hr, hm, hw, rfl, a, b, rfl⟩
    refine et_test (ee_op (ee_dat rfl (ee_dat rfl (o2_neD (sh_listR _) (sh_listR _) ⟨_, rfl, fun hb => ?_, fun hb => ?_⟩))))
    · rw [eqv_lst, eqvAll_map enR eqv_enR] at hb
      have hne : partedN c told ≠ told := by simpa using hb
      have hlt : meas (partedN c told) < meas told := by
        rcases parted_less hr with e | e
        · exact absurd e hne
        · exact e
      obtain ⟨n', rfl⟩ : ∃ n', n = n' + 1 := ⟨n - 1, by omega⟩
      have hr2 := parted_inv hr
      refine se_seq (se_set (ee_dat rfl ⟨_, rfl, ?_⟩))
      refine se_set (ee_parted_reading (ea_cons (ee_dat rfl (ea_cons (ee_dat rfl (ea_nil ⟨c, partedN c told, rfl, ⟨hc, hr2.len, hr2.bits hc⟩, _, rfl, ?_⟩))))))
      exact ⟨_, hlt, rfl, partedN c told, n', hr2, by omega, hw, rfl, a, b, rfl⟩
    · rw [eqv_lst, eqvAll_map enR eqv_enR] at hb
      have he : partedN c told = told := by simpa using hb
      rw [iter_fix _ he] at hw
      refine se_retD (ee_dat rfl ⟨_, rfl, rfl, _, rfl, ?_⟩)
      rw [hw]

end
end G
set_option autoImplicit false
/-! The senses' form. -/
namespace M
/-- a place that is told as itself -/
structure RootP (c : Circ) (Z : Sens) (p : Nat) : Prop where
  lt : p < Z.told.length
  say : Z.say p = .pl p
  left : c.first ≤ p → ∃ g, Z.get p = some g
def RootS (c : Circ) (Z : Sens) : Sn → Prop
  | .bit b => b < 2
  | .pl p => RootP c Z p
structure LeftOk (c : Circ) (Z : Sens) (q : Nat) (g : Gate) : Prop where
  ge : c.first ≤ q
  lt : q < Z.told.length
  len : g.2.length ≤ 3
  tab : Tab g.1 g.2.length
  root : ∀ o ∈ g.2, RootP c Z o ∧ o < q
  say : Z.say q = .pl q
structure ZInv (c : Circ) (Z : Sens) (n : Nat) : Prop where
  ok : ZOk Z n
  root : ∀ s ∈ Z.told, RootS c Z s
  left : ∀ e ∈ Z.left, LeftOk c Z e.1 e.2
  asc : Z.left.Pairwise fun a b => a.1 < b.1
theorem get_mem {Z : Sens} {p : Nat} {g : Gate} (h : Z.get p = some g) : (p, g) ∈ Z.left := by
  unfold Sens.get at h
  obtain ⟨e, he, rfl⟩ := Option.map_eq_some_iff.mp h
  have h1 := List.find?_some he
  have h2 := List.mem_of_find?_eq_some he
  simp at h1
  rw [← h1]
  exact h2
theorem get_of {Z : Sens} (asc : Z.left.Pairwise fun a b => a.1 < b.1) {p : Nat} {g : Gate} (h : (p, g) ∈ Z.left) : Z.get p = some g := by
  unfold Sens.get
  generalize Z.left = l at asc h
  induction l with
  | nil => cases h
  | cons e l ih =>
    rw [List.find?_cons]
    rcases List.mem_cons.mp h with rfl | h
    · simp
    · have := List.rel_of_pairwise_cons asc h
      have ne : ¬ e.1 = p := by
        have : e.1 < p := this
        omega
      rw [decide_eq_false ne]
      exact ih (List.Pairwise.of_cons asc) h
theorem num_mem {Z : Sens} {p : Nat} {g : Gate} (h : Z.num g = some p) : (p, g) ∈ Z.left := by
  unfold Sens.num at h
  obtain ⟨e, he, rfl⟩ := Option.map_eq_some_iff.mp h
  have h1 := List.find?_some he
  have h2 := List.mem_of_find?_eq_some he
  simp at h1
  rw [← h1]
  exact h2
theorem notget {Z : Sens} {p : Nat} (h : Z.isNot p = true) : ∃ u, Z.get p = some (1, [u]) ∧ Z.under p = u := by
  unfold Sens.isNot at h
  cases e : Z.get p with
  | none => rw [e] at h; cases h
  | some g =>
    rw [e] at h
    obtain ⟨h1, h2⟩ := Bool.and_eq_true_iff.mp h
    obtain ⟨u, hu⟩ := List.length_eq_one_iff.mp (of_decide_eq_true h2)
    have h1 : g.1 = 1 := of_decide_eq_true h1
    refine ⟨u, ?_, ?_⟩
    · rw [← h1, ← hu]
    · unfold Sens.under
      rw [e]
      show g.2.headD 0 = u
      rw [hu]
      rfl
/-! places in the reading -/
theorem rt_all (Z : Sens) {Q : Nat → Prop} : ∀ (ss : List Sn) (t m : Nat) (ps : List Nat), (∀ p, Sn.pl p ∈ ss → Q p ∧ (Z.isNot p = true → Q (Z.under p))) → (∀ p ∈ ps, Q p) → ∀ p ∈ (rtN Z ss t m ps).2, Q p
  | [], t, m, ps, _, h => h
  | .bit b :: r, t, m, ps, hs, h => by
    rw [rtN]
    exact rt_all Z r _ _ _ (fun p hp => hs p (List.mem_cons_of_mem _ hp)) h
  | .pl q :: r, t, m, ps, hs, h => by
    rw [rtN]
    have hq := hs q List.mem_cons_self
    split
    · rename_i hn
      refine rt_all Z r _ _ _ (fun p hp => hs p (List.mem_cons_of_mem _ hp)) fun p hp => ?_
      rcases List.mem_append.mp hp with hp | hp
      · exact h p hp
      · rw [List.mem_singleton.mp hp]
        exact hq.2 hn
    · refine rt_all Z r _ _ _ (fun p hp => hs p (List.mem_cons_of_mem _ hp)) fun p hp => ?_
      rcases List.mem_append.mp hp with hp | hp
      · exact h p hp
      · rw [List.mem_singleton.mp hp]
        exact hq.1
theorem cut_mem {ps : List Nat} {j p : Nat} (h : p ∈ ps.take j ++ ps.drop (j + 1)) : p ∈ ps := by
  rcases List.mem_append.mp h with h | h
  · exact List.mem_of_mem_take h
  · exact List.mem_of_mem_drop h
theorem unlike_mem (t : Nat) (ps : List Nat) (j : Nat) : ∀ p ∈ (unlikeN t ps j).2, p ∈ ps := by
  fun_induction unlikeN t ps j with
  | case1 t ps j hj h2 ih => exact fun p hp => cut_mem (ih p hp)
  | case2 t ps j hj h2 ih => exact ih
  | case3 t ps j hj => exact fun p hp => hp
theorem hung_mem (t : Nat) (ps : List Nat) (j : Nat) : ∀ p ∈ (hungN t ps j).2, p ∈ ps := by
  fun_induction hungN t ps j with
  | case1 t ps j hj h2 ih => exact ih
  | case2 t ps j hj h2 ih => exact fun p hp => cut_mem (ih p hp)
  | case3 t ps j hj => exact fun p hp => hp
theorem clean_mem {q : Nat × List Nat} {p : Nat} (h : p ∈ (cleanN q).2) : p ∈ q.2 := unlike_mem _ _ _ p (hung_mem _ _ _ p h)
theorem unlike_le (t : Nat) (ps : List Nat) (j : Nat) : (unlikeN t ps j).2.length ≤ ps.length := by
  fun_induction unlikeN t ps j with
  | case1 t ps j h h2 ih =>
    rw [cut_len h] at ih
    omega
  | case2 t ps j h h2 ih => exact ih
  | case3 t ps j h => exact Nat.le_refl _
theorem hung_le (t : Nat) (ps : List Nat) (j : Nat) : (hungN t ps j).2.length ≤ ps.length := by
  fun_induction hungN t ps j with
  | case1 t ps j h h2 ih => exact ih
  | case2 t ps j h h2 ih =>
    rw [cut_len h] at ih
    omega
  | case3 t ps j h => exact Nat.le_refl _
theorem clean_le (q : Nat × List Nat) : (cleanN q).2.length ≤ q.2.length := Nat.le_trans (hung_le _ _ _) (unlike_le _ _ _)
theorem rt_le (Z : Sens) : ∀ (ss : List Sn) (t m : Nat) (ps : List Nat), (rtN Z ss t m ps).2.length ≤ ps.length + ss.length
  | [], t, m, ps => Nat.le_refl _
  | .bit b :: r, t, m, ps => by
    rw [rtN, List.length_cons]
    have := rt_le Z r (fixN t m ps.length b) (m - 1) ps
    omega
  | .pl q :: r, t, m, ps => by
    rw [rtN, List.length_cons]
    split
    · have := rt_le Z r (flipN t m ps.length) m (ps ++ [Z.under q])
      rw [List.length_append, List.length_singleton] at this
      omega
    · have := rt_le Z r t m (ps ++ [q])
      rw [List.length_append, List.length_singleton] at this
      omega
theorem read_le (Z : Sens) (t : Nat) (ss : List Sn) : (Z.read t ss).2.length ≤ ss.length := by
  have := rt_le Z ss t ss.length []
  simpa [Sens.read] using this
theorem sort_perm (ns : List Nat) : (sortN ns).Perm ns := List.mergeSort_perm _ _
theorem sortP_perm (ns : List (Nat × Nat)) : (sortP ns).Perm ns := List.mergeSort_perm _ _
theorem rising_mem {q : Nat × List Nat} {p : Nat} (h : p ∈ (risingN q.1 q.2).2) : p ∈ q.2 := (sort_perm q.2).mem_iff.mp h
theorem rising_len (q : Nat × List Nat) : (risingN q.1 q.2).2.length = q.2.length := (sort_perm q.2).length_eq
theorem rising_tab (q : Nat × List Nat) : Tab (risingN q.1 q.2).1 (risingN q.1 q.2).2.length := by
  rw [rising_len]
  have := tab_ord q.1 ((sortP (q.2.zipIdx)).map (·.2))
  rw [List.length_map, (sortP_perm _).length_eq, List.length_zipIdx] at this
  exact this
/-! a gate more -/
theorem say_next {Z : Sens} {g : Gate} {p : Nat} (h : p < Z.told.length) : (Z.next g).say p = Z.say p := by
  unfold Sens.say
  rw [next_told, List.getD_eq_getElem?_getD, List.getD_eq_getElem?_getD, List.getElem?_append_left h]
theorem say_new (Z : Sens) (g : Gate) : (Z.next g).say Z.told.length = (Z.senseOf g.1 (g.2.map Z.say)).1 := by
  unfold Sens.say
  rw [next_told, List.getD_eq_getElem?_getD, List.getElem?_append_right (Nat.le_refl _), Nat.sub_self]
  rfl
theorem get_app {l : List (Nat × Gate)} {p : Nat} {g : Gate} {r : List (Nat × Gate)} (h : (l.find? fun e => decide (e.1 = p)).map (·.2) = some g) : ((l ++ r).find? fun e => decide (e.1 = p)).map (·.2) = some g := by
  obtain ⟨e, he, h2⟩ := Option.map_eq_some_iff.mp h
  rw [List.find?_append, he]
  exact congrArg some h2
theorem get_next {Z : Sens} {g' : Gate} {p : Nat} {g : Gate} (h : Z.get p = some g) : (Z.next g').get p = some g := by
  unfold Sens.get at h ⊢
  have e : (Z.next g').left = (Z.senseOf g'.1 (g'.2.map Z.say)).2.left := rfl
  rw [e]
  rcases fin_left Z (cleanN (Z.read g'.1 (g'.2.map Z.say))) with q | ⟨g2, q⟩
  · rw [Sens.senseOf, q]
    exact h
  · rw [Sens.senseOf, q]
    exact get_app h
theorem told_next_len (Z : Sens) (g : Gate) : (Z.next g).told.length = Z.told.length + 1 := by
  rw [next_told, List.length_append]
  rfl
theorem RootP.next {c : Circ} {Z : Sens} {p : Nat} (h : RootP c Z p) (g : Gate) : RootP c (Z.next g) p where
  lt := by
    rw [told_next_len]
    have := h.lt
    omega
  say := by rw [say_next h.lt, h.say]
  left := fun hp => let ⟨g1, e⟩ := h.left hp; ⟨g1, get_next e⟩
theorem RootS.next {c : Circ} {Z : Sens} {s : Sn} (h : RootS c Z s) (g : Gate) : RootS c (Z.next g) s := by
  cases s with
  | bit b => exact h
  | pl p => exact RootP.next h g
theorem LeftOk.next {c : Circ} {Z : Sens} {q : Nat} {g : Gate} (h : LeftOk c Z q g) (g' : Gate) : LeftOk c (Z.next g') q g where
  ge := h.ge
  lt := by
    rw [told_next_len]
    have := h.lt
    omega
  len := h.len
  tab := h.tab
  root := fun o ho => ⟨(h.root o ho).1.next g', (h.root o ho).2⟩
  say := by rw [say_next h.lt, h.say]
/-- the places that are left of a gate -/
theorem read_root {c : Circ} {Z : Sens} {n : Nat} (h : ZInv c Z n) {t : Nat} {ss : List Sn} (hs : ∀ s ∈ ss, RootS c Z s) : ∀ p ∈ (cleanN (Z.read t ss)).2, RootP c Z p := fun p hp => by
  refine rt_all Z (Q := RootP c Z) ss t ss.length [] (fun q hq => ⟨hs _ hq, fun hn => ?_⟩) (fun _ z => nomatch z) p (clean_mem hp)
  obtain ⟨u, e1, e2⟩ := notget hn
  rw [e2]
  exact ((h.left _ (get_mem e1)).root u (by simp)).1
theorem next_inv {c : Circ} {Z : Sens} {n : Nat} (h : ZInv c Z n) (hn : c.first ≤ n) {g : Gate} (ht : Tab g.1 g.2.length) (hl : g.2.length ≤ 3) (hp : ∀ p ∈ g.2, p < n) : ZInv c (Z.next g) (n + 1) := by
  have hsay : ∀ s ∈ g.2.map Z.say, RootS c Z s := fun s hs => by
    obtain ⟨p, hp2, rfl⟩ := List.mem_map.mp hs
    exact h.root _ (say_mem (by rw [h.ok.len]; exact hp p hp2))
  have hrt := read_root h (t := g.1) hsay
  have hlen : (cleanN (Z.read g.1 (g.2.map Z.say))).2.length ≤ 3 := by
    have h1 := clean_le (Z.read g.1 (g.2.map Z.say))
    have h2 := read_le Z g.1 (g.2.map Z.say)
    rw [List.length_map] at h2
    omega
  have htb := clean_tab (read_tab Z (t := g.1) (ss := g.2.map Z.say) (by rw [List.length_map]; exact ht))
  have hok := next_ok h.ok ht
  have eleft : (Z.next g).left = (Z.fin (cleanN (Z.read g.1 (g.2.map Z.say)))).2.left := rfl
  have enew : (Z.next g).say n = (Z.fin (cleanN (Z.read g.1 (g.2.map Z.say)))).1 := by
    rw [← h.ok.len]
    exact say_new Z g
  have etold : (Z.next g).told = Z.told ++ [(Z.fin (cleanN (Z.read g.1 (g.2.map Z.say)))).1] := rfl
  generalize cleanN (Z.read g.1 (g.2.map Z.say)) = q at hrt hlen htb eleft enew etold
  -- the left ones stay
  have old : ∀ e ∈ Z.left, LeftOk c (Z.next g) e.1 e.2 := fun e he => (h.left e he).next g
  have key : RootS c (Z.next g) (Z.fin q).1 ∧ (∀ e ∈ (Z.next g).left, LeftOk c (Z.next g) e.1 e.2) ∧ (Z.next g).left.Pairwise fun a b => a.1 < b.1 := by
    unfold Sens.fin at eleft enew ⊢
    by_cases h0 : q.2.length = 0
    · rw [if_pos h0] at eleft ⊢
      rw [eleft]
      rw [h0] at htb
      exact ⟨htb, old, h.asc⟩
    · rw [if_neg h0] at eleft enew ⊢
      by_cases h1 : q.2.length = 1 ∧ q.1 = 2
      · rw [if_pos h1] at eleft ⊢
        rw [eleft]
        obtain ⟨u, hu⟩ := List.length_eq_one_iff.mp h1.1
        refine ⟨?_, old, h.asc⟩
        show RootP c (Z.next g) (q.2.headD 0)
        rw [hu]
        exact (hrt u (by rw [hu]; simp)).next g
      · rw [if_neg h1] at eleft enew ⊢
        cases hm : Z.num (risingN q.1 q.2) with
        | some m =>
          rw [hm] at eleft enew
          simp only at eleft enew ⊢
          have lo := (h.left _ (num_mem hm)).next g
          rw [eleft]
          exact ⟨⟨lo.lt, lo.say, fun _ => ⟨_, get_next (get_of h.asc (num_mem hm))⟩⟩, old, h.asc⟩
        | none =>
          rw [hm] at eleft enew
          simp only at eleft enew ⊢
          have hZl : Z.told.length = n := h.ok.len
          have asc : (Z.next g).left.Pairwise fun a b => a.1 < b.1 := by
            rw [eleft]
            refine List.pairwise_append.mpr ⟨h.asc, List.pairwise_singleton _ _, fun a ha b hb => ?_⟩
            rw [List.mem_singleton.mp hb]
            have := h.ok.left a ha
            show a.1 < Z.told.length
            omega
          have mem : (n, risingN q.1 q.2) ∈ (Z.next g).left := by
            rw [eleft, hZl]
            simp
          have root : RootP c (Z.next g) n := ⟨by rw [told_next_len]; omega, by rw [enew, hZl], fun _ => ⟨_, get_of asc mem⟩⟩
          refine ⟨by rw [hZl]; exact root, fun e he => ?_, asc⟩
          rw [eleft] at he
          rcases List.mem_append.mp he with he | he
          · exact old e he
          · rw [List.mem_singleton.mp he]
            show LeftOk c (Z.next g) Z.told.length (risingN q.1 q.2)
            rw [hZl]
            refine ⟨hn, root.lt, by rw [rising_len]; exact hlen, rising_tab q, fun o ho => ?_, root.say⟩
            have := hrt o (rising_mem ho)
            exact ⟨this.next g, by have := this.lt; omega⟩
  refine ⟨hok, fun s hs => ?_, key.2.1, key.2.2⟩
  rw [etold] at hs
  rcases List.mem_append.mp hs with hs | hs
  · exact (h.root s hs).next g
  · rw [List.mem_singleton.mp hs]
    exact key.1
end M
set_option autoImplicit false
/-! The senses by the widest reading; what is needed. -/
namespace M
theorem start_inv {c : Circ} (hc : COk c) {rd : List Sn} (h : RInv c rd) : ZInv c ⟨(List.range c.ins).map .pl ++ rd, []⟩ c.first := by
  have hlen : ((List.range c.ins).map Sn.pl ++ rd).length = c.first := by
    rw [List.length_append, List.length_map, List.length_range, h.len]
    rfl
  have hl2 := h.len
  have hf : c.first = c.ins + c.mems.length := rfl
  refine ⟨⟨hlen, fun e he => (nomatch he), fun b hb => ?_⟩, fun s hs => ?_, fun e he => (nomatch he), List.Pairwise.nil⟩
  · rcases List.mem_append.mp hb with hb | hb
    · obtain ⟨_, _, z⟩ := List.mem_map.mp hb
      cases z
    · exact h.bits hc b hb
  · rcases List.mem_append.mp hs with hs | hs
    · obtain ⟨k, hk, rfl⟩ := List.mem_map.mp hs
      have hk := List.mem_range.mp hk
      refine ⟨by show k < _; rw [hlen]; omega, ?_, fun z => by omega⟩
      unfold Sens.say
      rw [List.getD_eq_getElem?_getD, List.getElem?_append_left (by rw [List.length_map, List.length_range]; exact hk), List.getElem?_map, List.getElem?_range hk]
      rfl
    · cases s with
      | bit b => exact h.bits hc b hs
      | pl w =>
        have hw := h.can w hs
        have hi := List.idxOf_lt_length_iff.mpr hs
        refine ⟨by show w < _; rw [hlen]; omega, ?_, fun z => by omega⟩
        unfold Sens.say
        rw [List.getD_eq_getElem?_getD, List.getElem?_append_right (by rw [List.length_map, List.length_range]; omega), List.length_map, List.length_range]
        have e : w - c.ins = rd.idxOf (.pl w) := by omega
        rw [e, List.getElem?_eq_getElem hi]
        exact List.getElem_idxOf hi
theorem fold_inv {c : Circ} (hc : COk c) : ∀ (r pre : List Gate) (Z : Sens), c.gates = pre ++ r → ZInv c Z (c.first + pre.length) → ZInv c (r.foldl Sens.next Z) (c.first + c.gates.length) := by
  intro r
  induction r with
  | nil =>
    intro pre Z e h
    rw [List.append_nil] at e
    rw [e]
    exact h
  | cons g r ih =>
    intro pre Z e h
    have hg : c.gates[pre.length]? = some g := by rw [e, List.getElem?_append_right (Nat.le_refl _), Nat.sub_self]; rfl
    obtain ⟨h1, h2, h3⟩ := hc.gate _ _ hg
    refine ih (pre ++ [g]) (Z.next g) (by rw [e, List.append_assoc]; rfl) ?_
    rw [List.length_append, ← Nat.add_assoc]
    exact next_inv h (Nat.le_add_right _ _) h2 h1 h3
theorem init_inv {c : Circ} (hc : COk c) {rd : List Sn} (h : RInv c rd) : ZInv c (initN c rd) (c.first + c.gates.length) := fold_inv hc c.gates [] _ rfl (start_inv hc h)
theorem sens_inv {c : Circ} (hc : COk c) : ZInv c (sensN c) (c.first + c.gates.length) := init_inv hc (widest_inv c)
theorem left_len_fold : ∀ (r : List Gate) (Z : Sens), (r.foldl Sens.next Z).left.length ≤ Z.left.length + r.length
  | [], Z => Nat.le_refl _
  | g :: r, Z => by
    have h1 := left_len_fold r (Z.next g)
    have h2 := next_left_len Z g
    rw [List.foldl_cons, List.length_cons]
    omega
theorem sens_left_len (c : Circ) : (sensN c).left.length ≤ c.gates.length := by
  have := left_len_fold c.gates ⟨(List.range c.ins).map .pl ++ widestN c, []⟩
  simpa [sensN, initN] using this
/-- what the search for the needed ones meets -/
def totN (c : Circ) : Nat := c.first + c.gates.length
structure NInv (c : Circ) (q : List Sn × List Sn) : Prop where
  nd : q.2.Nodup
  rf : ∀ s ∈ q.2, RootS c (sensN c) s
  rw : ∀ s ∈ q.1, RootS c (sensN c) s
theorem asked_root {c : Circ} (hc : COk c) {s : Sn} (h : RootS c (sensN c) s) : (∀ s' ∈ askedN c (sensN c) s, RootS c (sensN c) s') ∧ (askedN c (sensN c) s).length ≤ 3 := by
  have hz := sens_inv hc
  cases s with
  | bit b => exact ⟨fun _ h => (nomatch h), Nat.zero_le _⟩
  | pl p =>
    unfold askedN
    by_cases h1 : p < c.ins
    · simp [h1]
    · simp only [if_neg h1]
      by_cases h2 : p < c.first
      · simp only [if_pos h2]
        refine ⟨fun s' hs => ?_, by simp⟩
        rw [List.mem_singleton.mp hs]
        refine hz.root _ (say_mem ?_)
        rw [hz.ok.len]
        have hi : p - c.ins < c.mems.length := by
          have : c.first = c.ins + c.mems.length := rfl
          omega
        rw [List.getD_eq_getElem?_getD, List.getElem?_eq_getElem hi]
        exact (hc.mem _ (List.getElem_mem hi)).2
      · simp only [if_neg h2]
        obtain ⟨g, hg⟩ := (show RootP c (sensN c) p from h).left (by omega)
        rw [hg]
        have lo := hz.left _ (get_mem hg)
        refine ⟨fun s' hs => ?_, by rw [List.length_map]; exact lo.len⟩
        obtain ⟨o, ho, rfl⟩ := List.mem_map.mp hs
        exact (lo.root o ho).1
theorem out_root {c : Circ} (hc : COk c) : ∀ s ∈ c.outs.map (sensN c).say, RootS c (sensN c) s := fun s hs => by
  obtain ⟨p, hp, rfl⟩ := List.mem_map.mp hs
  exact (sens_inv hc).root _ (say_mem (by rw [(sens_inv hc).ok.len]; exact hc.out p hp))
theorem found_le {c : Circ} {q : List Sn × List Sn} (hc : COk c) (h : NInv c q) : q.2.length ≤ totN c + 2 := by
  have hz := sens_inv hc
  have := List.Nodup.length_le_of_subset (l₂ := (List.range 2).map Sn.bit ++ (List.range (totN c)).map Sn.pl) h.nd fun s hs => by
    have hr := h.rf s hs
    cases s with
    | bit b => exact List.mem_append_left _ (List.mem_map.mpr ⟨b, List.mem_range.mpr hr, rfl⟩)
    | pl p =>
      have := (show RootP c (sensN c) p from hr).lt
      rw [hz.ok.len] at this
      exact List.mem_append_right _ (List.mem_map.mpr ⟨p, List.mem_range.mpr this, rfl⟩)
  rw [List.length_append, List.length_map, List.length_map, List.length_range, List.length_range] at this
  omega
def nmeas (c : Circ) (q : List Sn × List Sn) : Nat := 4 * (totN c + 2 - q.2.length) + q.1.length
theorem need_step {c : Circ} (hc : COk c) {w : List Sn} {s : Sn} {f : List Sn} (h : NInv c (w ++ [s], f)) :
    NInv c (needStep c (sensN c) (w ++ [s], f)) ∧ nmeas c (needStep c (sensN c) (w ++ [s], f)) < nmeas c (w ++ [s], f) ∧ needStep c (sensN c) (w ++ [s], f) = if s ∈ f then (w, f) else (w ++ askedN c (sensN c) s, f ++ [s]) := by
  have e : needStep c (sensN c) (w ++ [s], f) = if s ∈ f then (w, f) else (w ++ askedN c (sensN c) s, f ++ [s]) := by
    unfold needStep
    simp
  rw [e]
  have hs : RootS c (sensN c) s := h.rw s (by simp)
  by_cases hm : s ∈ f
  · rw [if_pos hm]
    refine ⟨⟨h.nd, h.rf, fun x hx => h.rw x (List.mem_append_left _ hx)⟩, ?_, rfl⟩
    unfold nmeas
    simp
  · rw [if_neg hm]
    obtain ⟨a1, a2⟩ := asked_root hc hs
    have inv : NInv c (w ++ askedN c (sensN c) s, f ++ [s]) := by
      refine ⟨?_, fun x hx => ?_, fun x hx => ?_⟩
      · refine List.nodup_append.mpr ⟨h.nd, by simp, fun a ha b hb e => ?_⟩
        rw [List.mem_singleton.mp hb] at e
        exact hm (e ▸ ha)
      · rcases List.mem_append.mp hx with hx | hx
        · exact h.rf x hx
        · rw [List.mem_singleton.mp hx]
          exact hs
      · rcases List.mem_append.mp hx with hx | hx
        · exact h.rw x (List.mem_append_left _ hx)
        · exact a1 x hx
    refine ⟨inv, ?_, rfl⟩
    have := found_le hc inv
    unfold nmeas
    simp only [List.length_append, List.length_singleton] at this ⊢
    omega
theorem need_done {c : Circ} {f : List Sn} : needStep c (sensN c) ([], f) = ([], f) := rfl
theorem need_start {c : Circ} (hc : COk c) : NInv c (c.outs.map (sensN c).say, []) := ⟨List.nodup_nil, fun _ h => (nomatch h), out_root hc⟩
theorem need_start_le (c : Circ) : nmeas c (c.outs.map (sensN c).say, []) ≤ 4 * (c.first + c.gates.length + 2) + c.outs.length := by
  unfold nmeas totN
  rw [List.length_map]
  simp
/-- everything found asks for what is found, but for what waits -/
def Closed (c : Circ) (q : List Sn × List Sn) : Prop := (∀ s ∈ c.outs.map (sensN c).say, s ∈ q.2 ∨ s ∈ q.1) ∧ ∀ s ∈ q.2, ∀ s' ∈ askedN c (sensN c) s, s' ∈ q.2 ∨ s' ∈ q.1
theorem closed_step {c : Circ} (hc : COk c) {w : List Sn} {s : Sn} {f : List Sn} (h : NInv c (w ++ [s], f)) (k : Closed c (w ++ [s], f)) : Closed c (needStep c (sensN c) (w ++ [s], f)) := by
  rw [(need_step hc h).2.2]
  have mv : ∀ {x : Sn}, x ∈ f ∨ x ∈ w ++ [s] → x ∈ f ∨ x = s ∨ x ∈ w := fun {x} hx => by
    rcases hx with hx | hx
    · exact .inl hx
    · rcases List.mem_append.mp hx with hx | hx
      · exact .inr (.inr hx)
      · exact .inr (.inl (List.mem_singleton.mp hx))
  by_cases hm : s ∈ f
  · rw [if_pos hm]
    refine ⟨fun x hx => ?_, fun x hx y hy => ?_⟩
    · rcases mv (k.1 x hx) with z | rfl | z
      · exact .inl z
      · exact .inl hm
      · exact .inr z
    · rcases mv (k.2 x hx y hy) with z | rfl | z
      · exact .inl z
      · exact .inl hm
      · exact .inr z
  · rw [if_neg hm]
    refine ⟨fun x hx => ?_, fun x hx y hy => ?_⟩
    · rcases mv (k.1 x hx) with z | rfl | z
      · exact .inl (List.mem_append_left _ z)
      · exact .inl (List.mem_append_right _ (by simp))
      · exact .inr (List.mem_append_left _ z)
    · rcases List.mem_append.mp hx with hx | hx
      · rcases mv (k.2 x hx y hy) with z | rfl | z
        · exact .inl (List.mem_append_left _ z)
        · exact .inl (List.mem_append_right _ (by simp))
        · exact .inr (List.mem_append_left _ z)
      · rw [List.mem_singleton.mp hx] at hy
        exact .inr (List.mem_append_right _ hy)
theorem list_end {α : Type} (w : List α) : w = [] ∨ ∃ v s, w = v ++ [s] := by
  rcases List.eq_nil_or_concat w with h | ⟨v, s, h⟩
  · exact .inl h
  · exact .inr ⟨v, s, by rw [h, List.concat_eq_append]⟩
theorem need_end {c : Circ} (hc : COk c) : ∀ (n : Nat) {q : List Sn × List Sn}, NInv c q → nmeas c q ≤ n → Closed c q → ∃ f, iterN (needStep c (sensN c)) n q = ([], f) ∧ NInv c ([], f) ∧ Closed c ([], f) := by
  intro n
  induction n with
  | zero =>
    rintro ⟨w, f⟩ h hm k
    rcases list_end w with rfl | ⟨v, s, rfl⟩
    · exact ⟨f, rfl, h, k⟩
    · have := (need_step hc h).2.1
      omega
  | succ n ih =>
    rintro ⟨w, f⟩ h hm k
    rcases list_end w with rfl | ⟨v, s, rfl⟩
    · exact ⟨f, by rw [iter_fix _ need_done], h, k⟩
    · obtain ⟨h1, h2, h3⟩ := need_step hc h
      exact ih h1 (by omega) (closed_step hc h k)
structure NeedOk (c : Circ) : Prop where
  root : ∀ s ∈ needN c, RootS c (sensN c) s
  out : ∀ p ∈ c.outs, (sensN c).say p ∈ needN c
  ask : ∀ s ∈ needN c, ∀ s' ∈ askedN c (sensN c) s, s' ∈ needN c
theorem need_ok {c : Circ} (hc : COk c) : NeedOk c := by
  obtain ⟨f, e, h, k⟩ := need_end hc _ (need_start hc) (need_start_le c) ⟨fun s hs => .inr hs, fun _ h => nomatch h⟩
  have en : needN c = f := by
    unfold needN
    rw [e]
  refine ⟨fun s hs => h.rf s (by rw [← en]; exact hs), fun p hp => ?_, fun s hs s' hs' => ?_⟩
  · rw [en]
    rcases k.1 _ (List.mem_map.mpr ⟨p, hp, rfl⟩) with z | z
    · exact z
    · cases z
  · rw [en] at hs ⊢
    rcases k.2 s hs s' hs' with z | z
    · exact z
    · cases z
end M
set_option Elab.async false
set_option linter.all false
set_option maxRecDepth 100000
set_option maxHeartbeats 4000000
set_option autoImplicit false
namespace G
open PySem PySem.Spec PyProof.Rows L2 D M
local macro_rules | `(tactic| walk_at "d1") => `(tactic| first
  | (with_reducible refine se_seq ?_)
  | (with_reducible refine se_next ?_)
  | (with_reducible refine se_set ?_)
  | (with_reducible refine se_retD ?_)
  | (with_reducible refine se_if ?_)
  | (with_reducible refine ee_lit ?_)
  | (with_reducible refine ee_int ?_)
  | (with_reducible refine ee_str ?_)
  | (with_reducible refine ee_bl ?_)
  | (with_reducible refine ee_non ?_)
  | (with_reducible refine ee_op ?_)
  | (with_reducible refine ee_tup ?_)
  | (with_reducible refine ee_cb ?_)
  | (with_reducible refine et_test ?_)
  | (with_reducible refine ea_nil ?_)
  | (with_reducible refine ea_cons ?_)
  | ((with_reducible refine' ee_dat ?e ?_); (case e => rfl))
  | ((with_reducible refine' ee_own ?e ?_); (case e => rfl))
  | ((with_reducible refine' ee_raw ?e ?_); (case e => rfl))
  | ((with_reducible refine' n_and ?ha ?hb ?_); (case ha => rfl); (case hb => rfl))
  | ((with_reducible refine' n_or ?ha ?hb ?_); (case ha => rfl); (case hb => rfl))
  | ((with_reducible refine' n_xor ?ha ?hb ?_); (case ha => rfl); (case hb => rfl))
  | ((with_reducible refine' n_add ?ha ?hb ?_); (case ha => rfl); (case hb => rfl))
  | ((with_reducible refine' n_sub ?ha ?hb ?hc ?_); (case ha => rfl); (case hb => rfl); (case hc => first | omega | assumption | decide))
  | ((with_reducible refine' n_mul ?ha ?hb ?hc ?_); (case ha => rfl); (case hb => rfl); (case hc => first | omega | assumption | decide))
  | ((with_reducible refine' n_shr ?ha ?hb ?_); (case ha => rfl); (case hb => rfl))
  | ((with_reducible refine' n_shl ?ha ?hb ?hc ?hd ?_); (case ha => rfl); (case hb => rfl); (case hc => first | omega | assumption | decide); (case hd => first | omega | assumption | decide))
  | ((with_reducible refine' n_lt ?ha ?hb ?_); (case ha => rfl); (case hb => rfl))
  | ((with_reducible refine' n_gt ?ha ?hb ?_); (case ha => rfl); (case hb => rfl))
  | ((with_reducible refine' n_eq ?ha ?hb ?_); (case ha => rfl); (case hb => rfl))
  | ((with_reducible refine' n_ne ?ha ?hb ?_); (case ha => rfl); (case hb => rfl))
  | (with_reducible refine ⟨_, rfl, ?_⟩)
  | (with_reducible refine ⟨_, _, rfl, ?_⟩)
  | (with_reducible refine ⟨_, _, _, rfl, ?_⟩)
  | (with_reducible refine ⟨_, _, _, _, rfl, ?_⟩)
  | exact ⟨rfl, _, rfl, rfl⟩)
local macro_rules | `(tactic| walk_at "d") => `(tactic| (repeat (walk_at "d1")))
section
variable {P : Program} {w : World} {K : PySem.W.Frag} {mg : Str → Option Value} {base : Heap}
structure I_asked_by where
  a : Addr
  t : Addr
  l : Addr
  n : Addr
  Z : Sens
  c : Circ
  s : Sn
def OkAsk (c : Circ) (Z : Sens) (s : Sn) : Prop := COk c ∧ Z.told.length = c.first + c.gates.length ∧ (∀ p, s = .pl p → c.first ≤ p → ∃ g, Z.get p = some g ∧ g.2.length ≤ 3)
abbrev sp_asked_by (P : Program) (w : World) (CS : Addr) : Sp := spR (fun i : I_asked_by => [.dat (enC i.c), .raw (.ref i.a), .dat (enS i.s)]) (fun i S H => AtS P w CS i.a i.t i.l i.n i.Z S H ∧ OkAsk i.c i.Z i.s) (fun i d => d = .list ((askedN i.c i.Z i.s).map enS))
theorem ee_asked_by {Ω : Wd} {δ : List AS} {R : KR} {ta : TA} {E : XK} {CS : Addr} (h : EA P w ta Ω δ fun rs Ω1 δ1 => ∃ i : I_asked_by, rs = [.dat (enC i.c), .raw (.ref i.a), .dat (enS i.s)] ∧ HasS P w CS Ω1 i.a i.t i.l i.n i.Z ∧ OkAsk i.c i.Z i.s ∧ R (.dat (.list ((askedN i.c i.Z i.s).map enS))) Ω1 δ1) : EE P w (tCall (sp_asked_by P w CS) [] E ta) Ω δ R :=
  ee_callR (h.imp fun rs Ω1 δ1 ⟨i, e, hs, ho, z⟩ => ⟨i, e, by simp, fun S H e3 hw => ⟨hs.now S H e3 hw, ho⟩, fun d hd => by subst hd; exact z⟩)
theorem first_eq (c : Circ) : c.first = c.ins + c.mems.length := rfl
theorem told_get {Z : Sens} {p : Nat} (h : p < Z.told.length) : (Z.told.map enS)[p]? = some (enS (Z.say p)) := by
  rw [List.getElem?_map, Sens.say, List.getD_eq_getElem?_getD, List.getElem?_eq_getElem h]
  rfl

abbrev N_asked_by : List Str := ["circuit", "senses", "sense", "word", "place", "other"]
theorem sc_asked_by : FnScope N_asked_by ["circuit", "senses", "sense"] (defScope s_asked_by) := ⟨rfl, rfl, rfl, by decide +kernel, rfl, by decide +kernel, by decide +kernel⟩
theorem ok_asked_by {k : Nat} {f : Addr} {fd : FuncData} (F : FnP K "asked_by" "asked_by" s_asked_by f fd) (T : Fx mg) {CS : Addr} (ks : KS K CS) (c_first_gate : Cal P w K mg base k "first_gate" ["circuit"] sp_first_gate) : FnOk P w K mg base CX0 (k + 1) f fd ["circuit", "senses", "sense"] (sp_asked_by P w CS) := by
  refine F.ok sc_asked_by (spR_len fun _ => rfl) (fun cdv A outer s H vs Q E hr hsp => ?_)
  refine ⟨_, PSs.nox (pss_cons (ps_asg (pv 2) (pg_tup rfl (pgs_cons (pg_name (i := 3) sc_asked_by.nd rfl (Or.inl rfl)) (pgs_cons (pg_name (i := 4) sc_asked_by.nd rfl (Or.inl rfl)) pgs_nil))))
    (pss_cons (ps_if (PW.pt (pw_or (pt_cmpR (op_eqD hr.units) (pv 3) pe_str (nomark _)) (pw_or1 (pt_cmpR op_lt (pv 4) (pe_ix ix_tup (pv 0) pe_int (fun _ _ => rfl)) (nomark _)))))
    (pss_one (ps_ret (pe_lst pa_nil)))
    pss_nil)
    (pss_cons (ps_if (pt_cmpR op_lt (pv 4) (pe_cal c_first_gate hr (by rfl) (pa_cons (pv 0) pa_nil)) (nomark _))
    (pss_one (ps_ret (pe_lst (pa_cons (pe_ix ix_list (pe_fld (pv 1) rfl) (pe_ix ix_tup (pe_ix ix_list (pe_ix ix_tup (pv 0) pe_int (fun _ _ => rfl)) (pe_op op_sub (pv 4) (pe_ix ix_tup (pv 0) pe_int (fun _ _ => rfl))) (fun _ _ => rfl)) pe_int (fun _ _ => rfl)) (fun _ _ => rfl)) pa_nil))))
    pss_nil)
    (pss_one (ps_ret (pe_lc (own := [("other", 5)]) (g := gName 5) (by rfl) sc_asked_by.nd (pi_tup (pe_ix ix_tup (pe_dget (hu_of hr) (pe_fld (pv 1) rfl) (pv 4) (fun _ _ => rfl)) pe_int (fun _ _ => rfl))) (blkOk_by (own := [("other", 5)]) (N := N_asked_by) (sc := defScope s_asked_by) (by decide +kernel)) (fun _ _ _ _ _ => pg_name (i := 5) sc_asked_by.nd rfl (Or.inl rfl)) (fun _ _ _ _ _ => pts_nil) (fun _ _ _ _ _ => pe_tup (pa_cons pe_str (pa_cons (pv 5) pa_nil))))))))), ?_⟩
  refine run_spR (P := P) (w := w) hsp ?_
  rintro ⟨a, t, l, n, Z, c, s⟩ S H ⟨hz, hc, hl, hg⟩
  dsimp only at hz hc hl hg ⊢
  have hs := hz.old (cs := [])
  have hms := hc.mems
  cases s with
  | bit b =>
    refine se_seq (se_asg (ee_dat rfl ⟨_, _, rfl, gs_tup2, ?_⟩))
    refine se_seq (se_if (et_orB (p := true) (q := false) (et_test (ee_op (ee_dat rfl (ee_str (n_eqS sh_bit sh_bit ⟨_, rfl, by simp, rfl, rfl⟩))))) (fun z => nomatch z) ⟨fun _ => ?_, fun z => nomatch z⟩))
    refine se_retD (ee_new (en_lst (ea_nil ⟨[], rfl, by decide, _, rfl, ⟨_, rfl⟩, _, rfl, rfl⟩)))
  | pl p =>
    refine se_seq (se_asg (ee_dat rfl ⟨_, _, rfl, gs_tup2, ?_⟩))
    refine se_seq (se_if (et_orB (p := false) (q := decide (p < c.ins)) (et_test (ee_op (ee_dat rfl (ee_str (n_eqS sh_place sh_bit ⟨_, rfl, by simp [place_ne], rfl, rfl⟩))))) (fun _ => et_test (ee_op (ee_dat rfl (ee_op (ee_dat rfl (ee_lit (n_ixT rfl rfl (n_lt rfl rfl ⟨_, rfl, rfl, rfl, rfl⟩)))))))) ⟨fun hb => ?_, fun hb => ?_⟩))
    · have h1 : p < c.ins := by simpa using hb
      refine se_retD (ee_new (en_lst (ea_nil ⟨[], rfl, by decide, _, rfl, ⟨_, rfl⟩, _, rfl, ?_⟩)))
      simp [askedN, h1]
    · have h1 : ¬ p < c.ins := by simpa using hb
      refine se_next ?_
      refine se_seq (se_if (et_test (ee_op (ee_dat rfl (ee_first_gate (ea_cons (ee_dat rfl (ea_nil ⟨c, rfl, n_lt rfl rfl ⟨_, rfl, fun hb2 => ?_, fun hb2 => ?_⟩⟩))))))))
      · have h2 : p < c.first := by simpa using hb2
        have hi : p - c.ins < c.mems.length := by
          have := first_eq c
          omega
        have hm : (c.mems.map enM)[p - c.ins]? = some (enM (c.mems.getD (p - c.ins) (0, 0))) := by
          rw [List.getElem?_map, List.getD_eq_getElem?_getD, List.getElem?_eq_getElem hi]
          rfl
        have hlt : (c.mems.getD (p - c.ins) (0, 0)).2 < Z.told.length := by
          rw [hl, List.getD_eq_getElem?_getD, List.getElem?_eq_getElem hi]
          exact (hc.mem _ (List.getElem_mem hi)).2
        refine se_retD (ee_new (en_lst (ea_cons (ee_op (ee_told ks (ee_raw rfl ⟨a, t, l, n, Z, rfl, hs, ee_op (ee_op (ee_op (ee_dat rfl (ee_lit (n_ixT rfl rfl (ee_op (ee_dat rfl (ee_op (ee_dat rfl (ee_lit (n_ixT rfl rfl (n_sub rfl rfl (Nat.le_of_not_lt h1) (n_ixL rfl hm (ee_lit (n_ixT rfl rfl (o2_ixH hs.h1 rfl (told_get hlt) (ea_nil ⟨[_], rfl, (by show 1 ≤ sizeLine; decide), _, rfl, ⟨_, rfl⟩, _, rfl, ?_⟩)))))))))))))))))⟩))))))
        simp [askedN, h1, h2]
      · have h2 : ¬ p < c.first := by simpa using hb2
        refine se_next ?_
        obtain ⟨g, hgg, hg3⟩ := hg p rfl (by omega)
        refine se_retD (ee_new (en_mapX g.2 nI (fun o => enS (.pl o)) (es_tup (ee_op (ee_leftAt ks (ee_raw rfl ⟨a, t, l, n, Z, rfl, hs, ee_dat rfl ⟨p, g, rfl, rfl, hgg, ee_lit (n_ixT rfl rfl ⟨_, rfl, rfl, rfl, ?_, ?_, ?_⟩)⟩⟩))))))
        · exact Nat.lt_of_le_of_lt hg3 (by decide)
        · intro o ho
          exact ⟨_, gs_name, rfl, ee_tup (ea_cons (ee_str (ea_cons (ee_dat rfl (ea_nil ⟨[_, _], rfl, (by show 2 ≤ sizeLine; decide), rfl, rfl, rfl⟩)))))⟩
        · refine ⟨_, rfl, ⟨_, rfl⟩, _, rfl, ?_⟩
          simp only [askedN, if_neg h1, if_neg h2, hgg]
          rw [List.map_map]
          rfl

abbrev kvF (f : List Sn) : List (NK × PyData) := f.map fun s => (.tup (kS s), .bool true)
theorem kS_eq {s t : Sn} : NestedKey.tup (kS s) = NestedKey.tup (kS t) ↔ s = t := ⟨fun h => kS_inj (by injection h), fun h => by rw [h]⟩
theorem lookD_kvF (f : List Sn) (s : Sn) : lookD (kvF f) (.tup (kS s)) = if s ∈ f then some (.bool true) else none := by
  induction f with
  | nil => rfl
  | cons x r ih =>
    by_cases h : x = s
    · simp [lookD, h]
    · have h' : ¬ NestedKey.tup (kS x) = NestedKey.tup (kS s) := fun z => h (kS_eq.mp z)
      have h2 : ¬ s = x := fun z => h z.symm
      unfold lookD at ih ⊢
      rw [show kvF (x :: r) = (.tup (kS x), .bool true) :: kvF r from rfl, List.find?_cons, decide_eq_false h']
      simp only [List.mem_cons, h2, false_or]
      exact ih
theorem putD_kvF {f : List Sn} {s : Sn} (h : s ∉ f) : putD (kvF f) (.tup (kS s)) (.bool true) = kvF (f ++ [s]) := by
  unfold putD
  rw [lookD_any, lookD_kvF, if_neg h, if_neg (by simp)]
  simp [kvF]
structure I_needed where
  a : Addr
  t : Addr
  l : Addr
  n : Addr
  c : Circ
abbrev sp_needed_senses (P : Program) (w : World) (CS : Addr) : Sp := spG (fun i : I_needed => [.dat (enC i.c), .raw (.ref i.a)]) (fun i S H => AtS P w CS i.a i.t i.l i.n (sensN i.c) S H ∧ COk i.c) (fun _ => []) (fun i r cs => ∃ b, r = .raw (.ref b) ∧ cs = [(b, .dic P w b (kvF (needN i.c)))])

abbrev N_needed_senses : List Str := ["circuit", "senses", "waiting", "place", "found", "sense"]
theorem sc_needed_senses : FnScope N_needed_senses ["circuit", "senses"] (defScope s_needed_senses) := ⟨rfl, rfl, rfl, by decide +kernel, rfl, by decide +kernel, by decide +kernel⟩
theorem ok_needed_senses {k : Nat} {f : Addr} {fd : FuncData} (F : FnP K "needed_senses" "needed_senses" s_needed_senses f fd) (T : Fx mg) {CS : Addr} (ks : KS K CS) (c_asked_by : Cal P w K mg base k "asked_by" ["circuit", "senses", "sense"] (sp_asked_by P w CS)) : FnOk P w K mg base CX0 (k + 1) f fd ["circuit", "senses"] (sp_needed_senses P w CS) := by
  refine F.ok sc_needed_senses (spG_len fun _ => rfl) (fun cdv A outer s H vs Q E hr hsp => ?_)
  refine ⟨_, PSs.nox (pss_cons (ps_setLc (i := 2) (own := [("place", 3)]) (g := gName 3) (by rfl) sc_needed_senses.nd rfl rfl (sw_true rfl rfl rfl (by decide +kernel)) (pi_list (pe_ix ix_tup (pv 0) pe_int (fun _ _ => rfl))) (blkOk_by (own := [("place", 3)]) (N := N_needed_senses) (sc := defScope s_needed_senses) (by decide +kernel)) (fun _ _ _ _ _ => pg_name (i := 3) sc_needed_senses.nd rfl (Or.inl rfl)) (fun _ _ _ _ _ => pts_nil) (fun _ _ _ _ _ => pe_ix (ixK_list (K := K) (by rfl)) (peK_fld (K := K) (by rfl) (pv 1) rfl) (pv 3) (fun _ _ => rfl)))
    (pss_cons (ps_set (i := 4) sc_needed_senses.nd rfl (Or.inl rfl) pe_dnewN)
    (pss_cons (ps_while PassesOwn.never (pt_cmpR op_gt (pe_callB call_len2 (by rfl) T.len PySem.boot_len (pa_cons (pv 2) pa_nil)) pe_int (nomark _))
    (pss_cons (ps_set (i := 5) sc_needed_senses.nd rfl (Or.inl rfl) (pe_bm0 PySem.F.plainAttrs_list PySem.F.slot_list_pop PySem.F.type_list_pop mt_pop (pv 2)))
    (pss_one (ps_if (pt_cmp (pc_nnotin hr (pv 5) (pv 4)))
    (pss_cons (ps_nput hr (pv 4) (pv 5) pe_bl rfl)
    (pss_one (ps_expr (pe_bm PySem.F.plainAttrs_list PySem.F.slot_list_extend PySem.F.type_list_extend mt_extend (pv 2) (pa_cons (pe_cal c_asked_by hr (by rfl) (pa_cons (pv 0) (pa_cons (pv 1) (pa_cons (pv 5) pa_nil)))) pa_nil)))))
    pss_nil))))
    (pss_one (ps_ret (pv 4)))))), ?_⟩
  refine run_spG (P := P) (w := w) hsp ?_
  rintro ⟨a, t, l, n, c⟩ S H ⟨hz, hc⟩
  dsimp only at hz hc ⊢
  have hs : ∀ cs, HasS P w CS (Wd.sym S H [] cs) a t l n (sensN c) := fun cs => hz.old (cs := cs)
  have hzi := sens_inv hc
  have hos := hc.outs
  have hgs := hc.gates
  have hms := hc.mems
  have hins := hc.ins
  have hfe := first_eq c
  have hst := need_start_le c
  refine se_seq (se_setN (en_mapX c.outs nI (fun p => enS ((sensN c).say p)) (es_list (ee_op (ee_dat rfl (ee_lit (n_ixT rfl rfl ⟨_, rfl, rfl, rfl, ?_, ?_, ?_⟩)))))))
  · exact Nat.lt_of_le_of_lt hos (by decide)
  · intro p hp
    have : p < (sensN c).told.length := by rw [hzi.ok.len]; exact hc.out p hp
    exact ⟨_, gs_name, rfl, ee_op (ee_told ks (ee_raw rfl ⟨a, t, l, n, _, rfl, hs [], ee_dat rfl (o2_ixH (hs []).h1 rfl (told_get this) ⟨rfl, rfl, rfl⟩)⟩))⟩
  refine ⟨(by show (2 : Nat) < 6; decide), ?_⟩
  refine se_seq (se_setDic (by show (4 : Nat) < 6; decide) ?_)
  have e0 : c.outs.map (fun p => enS ((sensN c).say p)) = (c.outs.map (sensN c).say).map enS := by
    rw [List.map_map]
    rfl
  rw [e0]
  refine se_seq (se_while (fun m Ω' δ' => Ω' = Wd.sym S H [] [] ∧ ∃ w' f k, NInv c (w', f) ∧ nmeas c (w', f) ≤ k ∧ (iterN (needStep c (sensN c)) k (w', f)).2 = needN c ∧ m = nmeas c (w', f) ∧ m ≤ 2000 ∧ ∃ x y, δ' = [.dat (enC c), .raw (.ref a), .own (w'.map enS), x, .dic (kvF f), y]) (nmeas c (c.outs.map (sensN c).say, [])) ⟨rfl, _, [], _, need_start hc, hst, rfl, rfl, by omega, .un, .un, rfl⟩ ?_)
  rintro m Ω' δ' ⟨rfl, w', f, k', hi, hm, hn, rfl, h2000, x, y, rfl⟩
  refine et_test (ee_op (ee_cb (ea_cons (ee_own rfl (ea_nil ?_)))))
  refine cb_len (ds := w'.map enS) (.inl rfl) ?_
  rw [List.length_map]
  refine ee_lit (n_gt rfl rfl ⟨_, rfl, fun hb => ?_, fun hb => ?_⟩)
  · have hb : 0 < w'.length := of_decide_eq_true hb
    rcases list_end w' with rfl | ⟨v, s, rfl⟩
    · simp at hb
    obtain ⟨h1, h2, h3⟩ := need_step hc hi
    obtain ⟨k2, rfl⟩ : ∃ k2, k' = k2 + 1 := ⟨k' - 1, by omega⟩
    have hro : RootS c (sensN c) s := hi.rw s (by simp)
    have hvl : v.length ≤ 2000 := by
      have : nmeas c (v ++ [s], f) = 4 * (totN c + 2 - f.length) + (v ++ [s]).length := rfl
      rw [List.length_append] at this
      omega
    rw [show (v ++ [s]).map enS = v.map enS ++ [enS s] by rw [List.map_append]; rfl]
    refine se_seq (se_pop (i := 2) (j := 5) rfl ?_)
    refine se_if (et_B (ee_nin (ee_dat rfl (ee_dic rfl ⟨kvF f, kS s, rfl, congrArg Rs.dat (enS_k s), kS_depth s, _, rfl, fun hb2 => ?_, fun hb2 => ?_⟩))))
    · have hnf : s ∉ f := fun z => by
        rw [if_pos rfl, lookD_kvF, if_pos z] at hb2
        cases hb2
      rw [if_neg hnf] at h3
      rw [h3] at h1 h2
      have hfl := found_le hc h1
      simp only [List.length_append, List.length_singleton] at hfl
      have htot : totN c ≤ 300 := by unfold totN; omega
      have ha3 := (asked_root hc hro).2
      refine se_seq (se_nputO (ee_bl (ee_dic rfl (ee_dat rfl ⟨_, kvF f, kS s, rfl, rfl, rfl, congrArg Rs.dat (enS_k s), kS_depth s, ?_, ?_⟩))))
      · rw [List.length_map]
        exact Nat.lt_of_le_of_lt (show f.length ≤ 303 by omega) (by decide)
      rw [putD_kvF hnf]
      refine se_extend (i := 2) rfl (ee_asked_by (ea_cons (ee_dat rfl (ea_cons (ee_raw rfl (ea_cons (ee_dat rfl (ea_nil ⟨⟨a, t, l, n, sensN c, c, s⟩, rfl, hs [], ⟨hc, hzi.ok.len, ?_⟩, _, v.map enS, rfl, rfl, ?_, ?_⟩))))))))
      · rintro p rfl hp
        obtain ⟨g, hg⟩ := (show RootP c (sensN c) p from hro).left hp
        exact ⟨g, hg, (hzi.left _ (get_mem hg)).len⟩
      · rw [List.length_map, List.length_map]
        exact Nat.le_trans (show v.length + (askedN c (sensN c) s).length ≤ 2003 by omega) (by decide)
      · refine ⟨_, h2, rfl, v ++ askedN c (sensN c) s, f ++ [s], k2, h1, by omega, ?_, rfl, by omega, x, .dat (enS s), ?_⟩
        · rw [← hn, iterN, h3]
        · rw [List.map_append]
          rfl
    · have hf : s ∈ f := by
        rw [if_pos rfl, lookD_kvF] at hb2
        by_cases z : s ∈ f
        · exact z
        · rw [if_neg z] at hb2
          cases hb2
      rw [if_pos hf] at h3
      rw [h3] at h1 h2
      refine se_next ⟨_, h2, rfl, v, f, k2, h1, by omega, ?_, rfl, by omega, x, .dat (enS s), rfl⟩
      rw [← hn, iterN, h3]
  · have hb : ¬ 0 < w'.length := of_decide_eq_false hb
    obtain rfl : w' = [] := List.eq_nil_of_length_eq_zero (by omega)
    rw [iter_fix _ need_done] at hn
    have hn : f = needN c := hn
    subst hn
    exact se_cellD (i := 4) rfl fun b => se_ret (ee_raw rfl ⟨(fun i z => nomatch z), _, rfl, (fun i z => nomatch z), b, rfl, rfl⟩)

end
end G
set_option Elab.async false
set_option linter.all false
set_option maxRecDepth 100000
set_option maxHeartbeats 4000000
set_option autoImplicit false
namespace G
open PySem PySem.Spec PyProof.Rows L2 D M
local macro_rules | `(tactic| walk_at "d1") => `(tactic| first
  | (with_reducible refine se_seq ?_)
  | (with_reducible refine se_next ?_)
  | (with_reducible refine se_set ?_)
  | (with_reducible refine se_retD ?_)
  | (with_reducible refine se_if ?_)
  | (with_reducible refine ee_lit ?_)
  | (with_reducible refine ee_int ?_)
  | (with_reducible refine ee_str ?_)
  | (with_reducible refine ee_bl ?_)
  | (with_reducible refine ee_non ?_)
  | (with_reducible refine ee_op ?_)
  | (with_reducible refine ee_tup ?_)
  | (with_reducible refine ee_cb ?_)
  | (with_reducible refine et_test ?_)
  | (with_reducible refine ea_nil ?_)
  | (with_reducible refine ea_cons ?_)
  | ((with_reducible refine' ee_dat ?e ?_); (case e => rfl))
  | ((with_reducible refine' ee_own ?e ?_); (case e => rfl))
  | ((with_reducible refine' ee_raw ?e ?_); (case e => rfl))
  | ((with_reducible refine' n_and ?ha ?hb ?_); (case ha => rfl); (case hb => rfl))
  | ((with_reducible refine' n_or ?ha ?hb ?_); (case ha => rfl); (case hb => rfl))
  | ((with_reducible refine' n_xor ?ha ?hb ?_); (case ha => rfl); (case hb => rfl))
  | ((with_reducible refine' n_add ?ha ?hb ?_); (case ha => rfl); (case hb => rfl))
  | ((with_reducible refine' n_sub ?ha ?hb ?hc ?_); (case ha => rfl); (case hb => rfl); (case hc => first | omega | assumption | decide))
  | ((with_reducible refine' n_mul ?ha ?hb ?hc ?_); (case ha => rfl); (case hb => rfl); (case hc => first | omega | assumption | decide))
  | ((with_reducible refine' n_shr ?ha ?hb ?_); (case ha => rfl); (case hb => rfl))
  | ((with_reducible refine' n_shl ?ha ?hb ?hc ?hd ?_); (case ha => rfl); (case hb => rfl); (case hc => first | omega | assumption | decide); (case hd => first | omega | assumption | decide))
  | ((with_reducible refine' n_lt ?ha ?hb ?_); (case ha => rfl); (case hb => rfl))
  | ((with_reducible refine' n_gt ?ha ?hb ?_); (case ha => rfl); (case hb => rfl))
  | ((with_reducible refine' n_eq ?ha ?hb ?_); (case ha => rfl); (case hb => rfl))
  | ((with_reducible refine' n_ne ?ha ?hb ?_); (case ha => rfl); (case hb => rfl))
  | (with_reducible refine ⟨_, rfl, ?_⟩)
  | (with_reducible refine ⟨_, _, rfl, ?_⟩)
  | (with_reducible refine ⟨_, _, _, rfl, ?_⟩)
  | (with_reducible refine ⟨_, _, _, _, rfl, ?_⟩)
  | exact ⟨rfl, _, rfl, rfl⟩)
local macro_rules | `(tactic| walk_at "d") => `(tactic| (repeat (walk_at "d1")))
section
variable {P : Program} {w : World} {K : PySem.W.Frag} {mg : Str → Option Value} {base : Heap}
structure KM (K : PySem.W.Frag) (CM : Addr) : Prop where
  cls : Cls K CM
  ins : NoAttr K CM "ins"
  begins : NoAttr K CM "begins"
  gates : NoAttr K CM "gates"
  steadies : NoAttr K CM "steadies"
abbrev nsM : List Str := ["ins", "begins", "gates", "steadies"]
/-- a circuit that is being made -/
structure Mak where
  a : Addr
  b : Addr
  g : Addr
  s : Addr
  ins : Nat
  begins : List Nat
  gates : List Gate
abbrev mkC (CM : Addr) (m : Mak) : Cells := [(m.s, .dk []), (m.g, .lst (m.gates.map enG)), (m.b, .lst (m.begins.map nI)), (m.a, .ins CM nsM [.dat (nI m.ins), .raw (.ref m.b), .raw (.ref m.g), .raw (.ref m.s)])]
structure I_Making_init where
  x : Addr
  ins : Nat
  begins : List Nat
abbrev sp_Making_init (CM : Addr) : Sp := spG (fun i : I_Making_init => [.raw (.ref i.x), .dat (nI i.ins), .dat (nL i.begins)]) (fun i _ _ => True) (fun i => [(i.x, .ins CM [] [])]) (fun i r cs => r = .dat .none ∧ ∃ b g s, cs = mkC CM ⟨i.x, b, g, s, i.ins, i.begins, []⟩)

abbrev N_Making_init : List Str := ["self", "ins", "begins"]
theorem sc_Making_init : FnScope N_Making_init ["self", "ins", "begins"] (defScope s_Making_init) := ⟨rfl, rfl, rfl, by decide +kernel, rfl, by decide +kernel, by decide +kernel⟩
theorem ok_Making_init {k : Nat} {f : Addr} {fd : FuncData} (F : FnP K "__init__" "Making.__init__" s_Making_init f fd) (T : Fx mg) {CM : Addr} (km : KM K CM) : FnOk P w K mg base CX0 (k + 1) f fd ["self", "ins", "begins"] (sp_Making_init CM) := by
  refine F.ok sc_Making_init (spG_len fun _ => rfl) (fun cdv A outer s H vs Q E hr hsp => ?_)
  refine ⟨_, PSs.nox (pss_cons (ps_fld (pv 0) (pv 1) rfl)
    (pss_cons (ps_fld (pv 0) (pe_callTy call_listOf (by rfl) T.list (by decide +kernel) (pa_cons (pv 2) pa_nil)) rfl)
    (pss_cons (ps_fld (pv 0) (pe_lst pa_nil) rfl)
    (pss_one (ps_fld (pv 0) pe_dnewK rfl))))), ?_⟩
  refine run_spG (P := P) (w := w) hsp ?_
  rintro ⟨x, ins, begins⟩ S H -
  dsimp only
  refine se_seq (se_fldC (ns := []) km.cls km.ins rfl (by decide) (ee_dat rfl ⟨(fun i z => nomatch z), ee_raw rfl ⟨S, H, _, _, 0, x, [], rfl, rfl, rfl, ?_⟩⟩))
  refine se_seq (se_fldN (ns := ["ins"]) km.cls km.begins (by decide) (by decide) (en_cb (ea_cons (ee_dat rfl (ea_nil (cn_list (.inl rfl) ⟨S, H, _, _, 0, x, _, rfl, rfl, rfl, fun b => ?_⟩))))))
  refine se_seq (se_fldN (ns := ["ins", "begins"]) km.cls km.gates (by decide) (by decide) (en_lst (ea_nil ⟨[], rfl, by decide, S, H, _, _, 1, x, _, rfl, rfl, rfl, fun g => ?_⟩)))
  refine se_fldD (ns := ["ins", "begins", "gates"]) (n := 2) km.cls km.steadies (by decide) (by decide) rfl rfl fun s => ?_
  exact ⟨_, rfl, rfl, b, g, s, rfl⟩

structure I_Making_gate where
  m : Mak
  tb : Nat
  ps : List Nat
  lst : Bool
def seqD (b : Bool) (ds : List PyData) : PyData := if b then .list ds else .tuple ds
theorem seqD_of (δ : List AS) (b : Bool) (ds : List PyData) : SeqOf δ (.dat (seqD b ds)) ds := by
  cases b
  · exact .inr rfl
  · exact .inl rfl
abbrev sp_Making_gate (CM : Addr) : Sp := spG (fun i : I_Making_gate => [.raw (.ref i.m.a), .dat (nI i.tb), .dat (seqD i.lst (i.ps.map nI))]) (fun i _ _ => i.m.gates.length < 1000) (fun i => mkC CM i.m) (fun i r cs => r = .dat (nI (i.m.ins + i.m.begins.length + i.m.gates.length)) ∧ cs = mkC CM { i.m with gates := i.m.gates ++ [(i.tb, i.ps)] })

abbrev N_Making_gate : List Str := ["self", "table", "places"]
theorem sc_Making_gate : FnScope N_Making_gate ["self", "table", "places"] (defScope s_Making_gate) := ⟨rfl, rfl, rfl, by decide +kernel, rfl, by decide +kernel, by decide +kernel⟩
theorem ok_Making_gate {k : Nat} {f : Addr} {fd : FuncData} (F : FnP K "gate" "Making.gate" s_Making_gate f fd) (T : Fx mg) {CM : Addr} (km : KM K CM) : FnOk P w K mg base CX0 (k + 1) f fd ["self", "table", "places"] (sp_Making_gate CM) := by
  refine F.ok sc_Making_gate (spG_len fun _ => rfl) (fun cdv A outer s H vs Q E hr hsp => ?_)
  refine ⟨_, PSs.nox (pss_cons (ps_expr (pe_bm PySem.F.plainAttrs_list PySem.F.slot_list_append PySem.F.type_list_append mt_append (pe_fld (pv 0) rfl) (pa_cons (pe_tup (pa_cons (pv 1) (pa_cons (pe_callTy call_tupOf (by rfl) T.tuple (by decide +kernel) (pa_cons (pv 2) pa_nil)) pa_nil))) pa_nil)))
    (pss_one (ps_ret (pe_op op_sub (pe_op op_add (pe_op op_add (pe_fld (pv 0) rfl) (pe_callB call_len2 (by rfl) T.len PySem.boot_len (pa_cons (pe_fld (pv 0) rfl) pa_nil))) (pe_callB call_len2 (by rfl) T.len PySem.boot_len (pa_cons (pe_fld (pv 0) rfl) pa_nil))) pe_int)))), ?_⟩
  refine run_spG (P := P) (w := w) hsp ?_
  rintro ⟨⟨a, b, g, s, ins, begins, gates⟩, tb, ps, lb⟩ S H hl
  dsimp only at hl ⊢
  have h3 : Has (Wd.sym S H (adr (mkC CM ⟨a, b, g, s, ins, begins, gates⟩)) (mkC CM ⟨a, b, g, s, ins, begins, gates⟩)) a (.ins CM nsM [.dat (nI ins), .raw (.ref b), .raw (.ref g), .raw (.ref s)]) := has_cell (n := 3) rfl
  have h1 : Has (Wd.sym S H (adr (mkC CM ⟨a, b, g, s, ins, begins, gates⟩)) (mkC CM ⟨a, b, g, s, ins, begins, gates⟩)) g (.lst (gates.map enG)) := has_cell (n := 1) rfl
  have k3 : Has (Wd.sym S H (adr (mkC CM ⟨a, b, g, s, ins, begins, gates⟩)) (mkC CM ⟨a, b, g, s, ins, begins, gates ++ [(tb, ps)]⟩)) a (.ins CM nsM [.dat (nI ins), .raw (.ref b), .raw (.ref g), .raw (.ref s)]) := has_cell (n := 3) rfl
  have k1 : Has (Wd.sym S H (adr (mkC CM ⟨a, b, g, s, ins, begins, gates⟩)) (mkC CM ⟨a, b, g, s, ins, begins, gates ++ [(tb, ps)]⟩)) g (.lst ((gates ++ [(tb, ps)]).map enG)) := has_cell (n := 1) rfl
  have k2 : Has (Wd.sym S H (adr (mkC CM ⟨a, b, g, s, ins, begins, gates⟩)) (mkC CM ⟨a, b, g, s, ins, begins, gates ++ [(tb, ps)]⟩)) b (.lst (begins.map nI)) := has_cell (n := 2) rfl
  refine se_seq (se_appendC (ee_f (ns := nsM) (j := 2) (by decide) (ee_raw rfl ⟨a, CM, _, _, rfl, h3, km.cls, km.gates, rfl, (fun i z => nomatch z), g, _, rfl, h1, ?_⟩)))
  refine ee_tup (ea_cons (ee_dat rfl (ea_cons (ee_cb (ea_cons (ee_dat rfl (ea_nil (cb_tuple (seqD_of _ _ _) (ea_nil ⟨[_, _], rfl, (by show 2 ≤ sizeLine; decide), S, H, _, _, 1, _, _, rfl, rfl, rfl, ?_, ?_⟩)))))))))
  · rw [List.length_map]
    exact Nat.lt_trans hl (by decide)
  have e1 : (mkC CM ⟨a, b, g, s, ins, begins, gates⟩).set 1 (g, .lst (gates.map enG ++ [.tuple [nI tb, .tuple (ps.map nI)]])) = mkC CM ⟨a, b, g, s, ins, begins, gates ++ [(tb, ps)]⟩ := by
    show [_, (g, Cell.lst (gates.map enG ++ [enG (tb, ps)])), _, _] = [_, (g, Cell.lst ((gates ++ [(tb, ps)]).map enG)), _, _]
    rw [List.map_append]
    rfl
  rw [e1]
  refine se_retD (ee_op (ee_op (ee_op (ee_f (ns := nsM) (j := 0) (by decide) (ee_raw rfl ⟨a, CM, _, _, rfl, k3, km.cls, km.ins, rfl, (fun i z => nomatch z), ee_cb (ea_cons (ee_f (ns := nsM) (j := 1) (by decide) (ee_raw rfl ⟨a, CM, _, _, rfl, k3, km.cls, km.begins, rfl, (fun i z => nomatch z), ea_nil (cb_lenH k2 ?_)⟩)))⟩)))))
  rw [List.length_map]
  refine n_add rfl rfl (ee_cb (ea_cons (ee_f (ns := nsM) (j := 2) (by decide) (ee_raw rfl ⟨a, CM, _, _, rfl, k3, km.cls, km.gates, rfl, (fun i z => nomatch z), ea_nil (cb_lenH k1 ?_)⟩))))
  rw [List.length_map, List.length_append, List.length_singleton]
  refine n_add rfl rfl (ee_lit (n_sub rfl rfl (by omega) ⟨_, rfl, _, rfl, (fun i z => nomatch z), ?_, rfl⟩))
  rw [show ins + begins.length + (gates.length + 1) - 1 = ins + begins.length + gates.length by omega]

end
end G
set_option Elab.async false
set_option linter.all false
set_option maxRecDepth 100000
set_option maxHeartbeats 2000000
set_option autoImplicit false
/-! list(zip(a, b)): the machine's steps. -/
namespace ZipL
open PySem PySem.Spec PyProof.Rows PySem.W PySem.Calls
abbrev ZipO (h : Heap) (z TI TO a : Addr) (f : Bool) : Prop :=
  h.get? z = some { cls := .type "zip", dict := none, data := .fields #[rawInt a, .bool f, .bool false, .ref TI, .ref TO], slots := #[] }
section
variable {prog : Program} {w : World} {A : Around} {E : Value → Shared → Prop} {s : Shared}
theorem zip_out {z TI TO i1 i2 l1 l2 T : Addr} {f : Bool} {oa : Obj} {k1 k2 : Nat} {xs ys : Array Value} {x y : Value} {Q : Value → Shared → Prop} (D : ZipApart z TI TO i1 i2 l1 l2)
    (hz : ZipO s.heap z TI TO T f) (hT : s.heap.get? T = some oa) (hTz : T ≠ z) (hTI : IsPair s.heap TI (.ref i1) (.ref i2))
    (h1 : s.heap.IsListIter i1 l1 k1) (h2 : s.heap.IsListIter i2 l2 k2) (hl1 : s.heap.IsList l1 xs) (hl2 : s.heap.IsList l2 ys) (hx : xs[k1]? = some x) (hy : ys[k2]? = some y)
    (hQ : ∀ h', ZipO h' z TI TO T true → h'.IsListIter i1 l1 (k1 + 1) → h'.IsListIter i2 l2 (k2 + 1) → IsPair h' s.heap.objs.size x y → h'.objs.size = s.heap.objs.size + 1 →
      (∀ c o, c ≠ z → c ≠ i1 → c ≠ i2 → s.heap.get? c = some o → h'.get? c = some o) → Q (.ref s.heap.objs.size) { s with heap := h' }) :
    wpAny (model prog w) A (Builtin.«zip.__next__» ⟨[.ref z], []⟩) (fun fin s' => ∃ v, fin = .done (.ret v) ∧ Q v s') E s := by
  show wpAny _ _ (field (.ref z) 2 >>= _) _ _ _
  refine wpAny_bind (wpAny_field hz rfl (x := .bool false) rfl ?_)
  show wpAny _ _ (field (.ref z) 3 >>= _) _ _ _
  refine wpAny_bind (wpAny_field hz rfl (x := .ref TI) rfl ?_)
  refine wpAny_bind (wpAny_seqItems hTI rfl ?_)
  show wpAny _ _ (Builtin.SmallTypes.ownedTupleIsFree (.ref z) >>= _) _ _ _
  refine wpAny_bind ?_
  unfold Builtin.SmallTypes.ownedTupleIsFree
  refine wpAny_bind (wpAny_field hz rfl (x := rawInt T) rfl ?_)
  show wpAny _ _ (loadIfAlive ((T : Int).toNat) >>= _) _ _ _
  rw [Int.toNat_natCast]
  refine wpAny_bind (kdx_alive hT ?_)
  simp only [Option.isNone_some, Bool.false_eq_true, if_false]
  refine wpAny_bind (wpAny_field hz rfl (x := .bool f) rfl ?_)
  cases f with
  | true =>
    rw [if_neg (show ¬ ((Value.bool true != Value.bool true) = true) from Bool.false_ne_true)]
    have hs₀ : Heap.SameBut z s.heap s.heap := Heap.SameBut.refl _ _
    refine wpAny_pure ?_
    simp only [Bool.false_eq_true, if_false]
    refine wpAny_bind ?_
    simp only [Array.forIn_toList.symm, List.forIn_cons, List.forIn_nil]
    refine wpAny_bind (wpAny_bind (wpAny_holding ?_))
    show wpAny _ _ (Builtin.SmallTypes.nextOf (.ref i1) >>= _) _ _ _
    refine wpAny_bind (wpAny_nextOf_list_item (h1.extBut hs₀.extBut D.i1z) (hl1.extBut hs₀.extBut D.l1z) hx fun h₂ h1₂ hs₂ => wpAny_pure ?_)
    refine wpAny_pure ?_
    refine wpAny_bind (wpAny_bind (wpAny_holding ?_))
    show wpAny _ _ (Builtin.SmallTypes.nextOf (.ref i2) >>= _) _ _ _
    refine wpAny_bind (wpAny_nextOf_list_item ((h2.extBut hs₀.extBut D.i2z).extBut hs₂.extBut D.i12.symm) ((hl2.extBut hs₀.extBut D.l2z).extBut hs₂.extBut D.l2i1) hy fun h₃ h2₃ hs₃ => wpAny_pure ?_)
    refine wpAny_pure (wpAny_pure ?_)
    refine wpAny_bind (wpAny_newTuple (hsz := by show 2 ≤ sizeLine; decide) ?_)
    have hsz : h₃.objs.size = s.heap.objs.size := by rw [hs₃.1, hs₂.1, hs₀.1]
    have z₃ : ZipO h₃ z TI TO T true := hs₃.extBut _ _ D.i2z.symm (hs₂.extBut _ _ D.i1z.symm hz)
    have k₃ : ∀ c o, c ≠ z → c ≠ i1 → c ≠ i2 → s.heap.get? c = some o → h₃.get? c = some o := fun c o c1 c3 c4 e => hs₃.extBut _ _ c4 (hs₂.extBut _ _ c3 (hs₀.extBut _ _ c1 e))
    have h1₃ : h₃.IsListIter i1 l1 (k1 + 1) := h1₂.extBut hs₃.extBut D.i12
    refine wpAny_pure ⟨_, rfl, ?_⟩
    show Q (.ref h₃.objs.size) _
    have hT₃ : IsPair (h₃.push { cls := .type "tuple", data := .seq #[x, y] }) h₃.objs.size x y := Heap.get?_push_size _ rfl
    rw [hsz] at hT₃ ⊢
    exact hQ _ (Heap.get?_push_of_some _ z₃) (h1₃.at fun o e => Heap.get?_push_of_some _ e) (h2₃.at fun o e => Heap.get?_push_of_some _ e) hT₃ (by rw [Heap.size_push, hsz]) fun c o c1 c2 c3 e => Heap.get?_push_of_some _ (k₃ c o c1 c2 c3 e)
  | false =>
    rw [if_pos (show (Value.bool false != Value.bool true) = true from rfl)]
    refine wpAny_bind (wpAny_setField_rec hz (by simp) fun h₁ hz₁ hs₁ => ?_)
    replace hz₁ : ZipO h₁ z TI TO T true := hz₁
    replace hs₁ : Heap.SameBut z s.heap h₁ := hs₁
    refine wpAny_pure ?_
    simp only [Bool.false_eq_true, if_false]
    refine wpAny_bind ?_
    simp only [Array.forIn_toList.symm, List.forIn_cons, List.forIn_nil]
    refine wpAny_bind (wpAny_bind (wpAny_holding ?_))
    show wpAny _ _ (Builtin.SmallTypes.nextOf (.ref i1) >>= _) _ _ _
    refine wpAny_bind (wpAny_nextOf_list_item (h1.extBut hs₁.extBut D.i1z) (hl1.extBut hs₁.extBut D.l1z) hx fun h₂ h1₂ hs₂ => wpAny_pure ?_)
    refine wpAny_pure ?_
    refine wpAny_bind (wpAny_bind (wpAny_holding ?_))
    show wpAny _ _ (Builtin.SmallTypes.nextOf (.ref i2) >>= _) _ _ _
    refine wpAny_bind (wpAny_nextOf_list_item ((h2.extBut hs₁.extBut D.i2z).extBut hs₂.extBut D.i12.symm) ((hl2.extBut hs₁.extBut D.l2z).extBut hs₂.extBut D.l2i1) hy fun h₃ h2₃ hs₃ => wpAny_pure ?_)
    refine wpAny_pure (wpAny_pure ?_)
    refine wpAny_bind (wpAny_newTuple (hsz := by show 2 ≤ sizeLine; decide) ?_)
    have hsz : h₃.objs.size = s.heap.objs.size := by rw [hs₃.1, hs₂.1, hs₁.1]
    have z₃ : ZipO h₃ z TI TO T true := hs₃.extBut _ _ D.i2z.symm (hs₂.extBut _ _ D.i1z.symm hz₁)
    have k₃ : ∀ c o, c ≠ z → c ≠ i1 → c ≠ i2 → s.heap.get? c = some o → h₃.get? c = some o := fun c o c1 c3 c4 e => hs₃.extBut _ _ c4 (hs₂.extBut _ _ c3 (hs₁.extBut _ _ c1 e))
    have h1₃ : h₃.IsListIter i1 l1 (k1 + 1) := h1₂.extBut hs₃.extBut D.i12
    refine wpAny_pure ⟨_, rfl, ?_⟩
    show Q (.ref h₃.objs.size) _
    have hT₃ : IsPair (h₃.push { cls := .type "tuple", data := .seq #[x, y] }) h₃.objs.size x y := Heap.get?_push_size _ rfl
    rw [hsz] at hT₃ ⊢
    exact hQ _ (Heap.get?_push_of_some _ z₃) (h1₃.at fun o e => Heap.get?_push_of_some _ e) (h2₃.at fun o e => Heap.get?_push_of_some _ e) hT₃ (by rw [Heap.size_push, hsz]) fun c o c1 c2 c3 e => Heap.get?_push_of_some _ (k₃ c o c1 c2 c3 e)
theorem zip_out_end {z TI TO i1 i2 l1 l2 T : Addr} {f : Bool} {oa : Obj} {k1 k2 : Nat} {xs ys : Array Value} {Q : Fin → Shared → Prop} (hh : A.handled = none) (D : ZipApart z TI TO i1 i2 l1 l2)
    (hz : ZipO s.heap z TI TO T f) (hT : s.heap.get? T = some oa) (hTz : T ≠ z) (hTI : IsPair s.heap TI (.ref i1) (.ref i2))
    (h1 : s.heap.IsListIter i1 l1 k1) (hl1 : s.heap.IsList l1 xs) (hx : xs[k1]? = none)
    (hE : ∀ h' e, (∀ c o, c ≠ z → c ≠ i1 → s.heap.get? c = some o → h'.get? c = some o) → (∃ o, h'.get? e = some o ∧ o.cls = .type "StopIteration") → E (.ref e) { s with heap := h' }) :
    wpAny (model prog w) A (Builtin.«zip.__next__» ⟨[.ref z], []⟩) Q E s := by
  show wpAny _ _ (field (.ref z) 2 >>= _) _ _ _
  refine wpAny_bind (wpAny_field hz rfl (x := .bool false) rfl ?_)
  show wpAny _ _ (field (.ref z) 3 >>= _) _ _ _
  refine wpAny_bind (wpAny_field hz rfl (x := .ref TI) rfl ?_)
  refine wpAny_bind (wpAny_seqItems hTI rfl ?_)
  show wpAny _ _ (Builtin.SmallTypes.ownedTupleIsFree (.ref z) >>= _) _ _ _
  refine wpAny_bind ?_
  unfold Builtin.SmallTypes.ownedTupleIsFree
  refine wpAny_bind (wpAny_field hz rfl (x := rawInt T) rfl ?_)
  show wpAny _ _ (loadIfAlive ((T : Int).toNat) >>= _) _ _ _
  rw [Int.toNat_natCast]
  refine wpAny_bind (kdx_alive hT ?_)
  simp only [Option.isNone_some, Bool.false_eq_true, if_false]
  refine wpAny_bind (wpAny_field hz rfl (x := .bool f) rfl ?_)
  cases f with
  | true =>
    rw [if_neg (show ¬ ((Value.bool true != Value.bool true) = true) from Bool.false_ne_true)]
    have hs₀ : Heap.SameBut z s.heap s.heap := Heap.SameBut.refl _ _
    refine wpAny_pure ?_
    simp only [Bool.false_eq_true, if_false]
    refine wpAny_bind ?_
    simp only [Array.forIn_toList.symm, List.forIn_cons, List.forIn_nil]
    refine wpAny_bind (wpAny_bind (wpAny_holding ?_))
    show wpAny _ _ (Builtin.SmallTypes.nextOf (.ref i1) >>= _) _ _ _
    refine wpAny_bind (wpAny_nextOf_list_end hh (h1.extBut hs₀.extBut D.i1z) (hl1.extBut hs₀.extBut D.l1z) hx fun h₂ e hs₂ he => ?_)
    exact hE h₂ e (fun c o c1 c2 x => hs₂ _ _ c2 (hs₀.extBut _ _ c1 x)) he
  | false =>
    rw [if_pos (show (Value.bool false != Value.bool true) = true from rfl)]
    refine wpAny_bind (wpAny_setField_rec hz (by simp) fun h₁ hz₁ hs₁ => ?_)
    replace hs₁ : Heap.SameBut z s.heap h₁ := hs₁
    refine wpAny_pure ?_
    simp only [Bool.false_eq_true, if_false]
    refine wpAny_bind ?_
    simp only [Array.forIn_toList.symm, List.forIn_cons, List.forIn_nil]
    refine wpAny_bind (wpAny_bind (wpAny_holding ?_))
    show wpAny _ _ (Builtin.SmallTypes.nextOf (.ref i1) >>= _) _ _ _
    refine wpAny_bind (wpAny_nextOf_list_end hh (h1.extBut hs₁.extBut D.i1z) (hl1.extBut hs₁.extBut D.l1z) hx fun h₂ e hs₂ he => ?_)
    exact hE h₂ e (fun c o c1 c2 x => hs₂ _ _ c2 (hs₁.extBut _ _ c1 x)) he
theorem py_out {z TI TO i1 i2 l1 l2 T : Addr} {f : Bool} {oa : Obj} {k1 k2 : Nat} {xs ys : Array Value} {x y : Value} {Q : Option Value → Shared → Prop} (D : ZipApart z TI TO i1 i2 l1 l2)
    (hz : ZipO s.heap z TI TO T f) (hT : s.heap.get? T = some oa) (hTz : T ≠ z) (hTI : IsPair s.heap TI (.ref i1) (.ref i2))
    (h1 : s.heap.IsListIter i1 l1 k1) (h2 : s.heap.IsListIter i2 l2 k2) (hl1 : s.heap.IsList l1 xs) (hl2 : s.heap.IsList l2 ys) (hx : xs[k1]? = some x) (hy : ys[k2]? = some y)
    (hQ : ∀ h', ZipO h' z TI TO T true → h'.IsListIter i1 l1 (k1 + 1) → h'.IsListIter i2 l2 (k2 + 1) → IsPair h' s.heap.objs.size x y → h'.objs.size = s.heap.objs.size + 1 →
      (∀ c o, c ≠ z → c ≠ i1 → c ≠ i2 → s.heap.get? c = some o → h'.get? c = some o) → Q (some (.ref s.heap.objs.size)) { s with heap := h' }) :
    wpAny (model prog w) A (pyNext (.ref z)) Q E s := by
  have hT' : s.TypeIs (.ref z) "zip" := ⟨_, hz, rfl⟩
  unfold pyNext
  exact wpAny_bind (wpAny_attempt (wpAny_callSpecial?_slot (name := Str.ofString "__next__") hT' F.slot_zip_next
    (wpAny_call_entry F.slot_zip_next hT' F.entry_zip_next
      (zip_out D hz hT hTz hTI h1 h2 hl1 hl2 hx hy fun h' a1 a3 a4 a5 a6 a7 => wpAny_pure (hQ h' a1 a3 a4 a5 a6 a7)) (F.args_zip_next_1 _))))
theorem py_end {z TI TO i1 i2 l1 l2 T : Addr} {f : Bool} {oa : Obj} {k1 k2 : Nat} {xs ys : Array Value} {Q : Option Value → Shared → Prop} (hh : A.handled = none) (D : ZipApart z TI TO i1 i2 l1 l2)
    (hz : ZipO s.heap z TI TO T f) (hT : s.heap.get? T = some oa) (hTz : T ≠ z) (hTI : IsPair s.heap TI (.ref i1) (.ref i2))
    (h1 : s.heap.IsListIter i1 l1 k1) (hl1 : s.heap.IsList l1 xs) (hx : xs[k1]? = none)
    (hQ : ∀ h', (∀ c o, c ≠ z → c ≠ i1 → s.heap.get? c = some o → h'.get? c = some o) → Q none { s with heap := h' }) :
    wpAny (model prog w) A (pyNext (.ref z)) Q E s := by
  have hT' : s.TypeIs (.ref z) "zip" := ⟨_, hz, rfl⟩
  unfold pyNext
  refine wpAny_bind (wpAny_attempt (wpAny_callSpecial?_slot (name := Str.ofString "__next__") hT' F.slot_zip_next
    (wpAny_call_entry F.slot_zip_next hT' F.entry_zip_next (zip_out_end (k2 := k2) (ys := ys) hh D hz hT hTz hTI h1 hl1 hx fun h' e hk he => ?_) (F.args_zip_next_1 _))))
  obtain ⟨o, ho, hc⟩ := he
  refine wpAny_bind (wpAny_isInstance (T := "StopIteration") (b := true) ⟨o, ho, hc⟩ isSubtype_stop ?_)
  exact wpAny_pure (hQ _ hk)
end
end ZipL
set_option Elab.async false
set_option linter.all false
set_option maxRecDepth 100000
set_option maxHeartbeats 2000000
set_option autoImplicit false
/-! list(zip(a, b)): the loop, the call. -/
namespace ZipL
open PySem PySem.Spec PyProof.Rows PySem.W PySem.Calls
/-- how the zip stands before its turn i -/
structure ZSt (h : Heap) (z TI TO i1 i2 l1 l2 S : Addr) (xs ys : Array Value) (i : Nat) : Prop where
  own : IsZip h z TI TO .none ∨ ∃ T f oa, ZipO h z TI TO T f ∧ h.get? T = some oa ∧ S < T
  hTI : IsPair h TI (.ref i1) (.ref i2)
  hTO : ∃ a b, IsPair h TO a b
  h1 : h.IsListIter i1 l1 i
  h2 : h.IsListIter i2 l2 i
  hl1 : h.IsList l1 xs
  hl2 : h.IsList l2 ys
structure Low (S z TI TO i1 i2 l1 l2 : Addr) : Prop where
  z : z < S
  TI : TI < S
  TO : TO < S
  i1 : i1 < S
  i2 : i2 < S
  l1 : l1 < S
  l2 : l2 < S
section
variable {prog : Program} {w : World} {A : Around} {E : Value → Shared → Prop} {s : Shared} {z TI TO i1 i2 l1 l2 S : Addr} {xs ys : Array Value}
theorem ZSt.keep {h h' : Heap} {i : Nat} (L : Low S z TI TO i1 i2 l1 l2) (x : ZSt h z TI TO i1 i2 l1 l2 S xs ys i) (hk : ∀ b o, b ≠ S → h.get? b = some o → h'.get? b = some o) : ZSt h' z TI TO i1 i2 l1 l2 S xs ys i where
  own := by
    rcases x.own with q | ⟨T, f, oa, q1, q2, q3⟩
    · exact .inl (hk _ _ (Nat.ne_of_lt L.z) q)
    · exact .inr ⟨T, f, oa, hk _ _ (Nat.ne_of_lt L.z) q1, hk _ _ (Nat.ne_of_gt q3) q2, q3⟩
  hTI := hk _ _ (Nat.ne_of_lt L.TI) x.hTI
  hTO := let ⟨a, b, q⟩ := x.hTO; ⟨a, b, hk _ _ (Nat.ne_of_lt L.TO) q⟩
  h1 := x.h1.at fun o e => hk _ o (Nat.ne_of_lt L.i1) e
  h2 := x.h2.at fun o e => hk _ o (Nat.ne_of_lt L.i2) e
  hl1 := x.hl1.at fun o e => hk _ o (Nat.ne_of_lt L.l1) e
  hl2 := x.hl2.at fun o e => hk _ o (Nat.ne_of_lt L.l2) e
theorem zst_item {i : Nat} {x y : Value} {Q : Option Value → Shared → Prop} (D : ZipApart z TI TO i1 i2 l1 l2) (L : Low S z TI TO i1 i2 l1 l2) (hst : ZSt s.heap z TI TO i1 i2 l1 l2 S xs ys i) (hS : S < s.heap.objs.size) (hx : xs[i]? = some x) (hy : ys[i]? = some y)
    (hQ : ∀ h', ZSt h' z TI TO i1 i2 l1 l2 S xs ys (i + 1) → IsPair h' s.heap.objs.size x y → h'.objs.size = s.heap.objs.size + 1 → (∀ b o, S ≤ b → s.heap.get? b = some o → h'.get? b = some o) →
      (∀ b o, b ≠ z → b ≠ TO → b ≠ i1 → b ≠ i2 → s.heap.get? b = some o → h'.get? b = some o) → Q (some (.ref s.heap.objs.size)) { s with heap := h' }) :
    wpAny (model prog w) A (pyNext (.ref z)) Q E s := by
  obtain ⟨a, b, hTO⟩ := hst.hTO
  have gt : ∀ {c d : Addr}, d < S → S ≤ c → c ≠ d := fun h1 h2 e => by rw [e] at h2; exact absurd h1 (Nat.not_lt.mpr h2)
  rcases hst.own with q | ⟨T, f, oa, q1, q2, q3⟩
  · refine wpAny_pyNext_zip_item D q hst.hTI hTO hst.h1 hst.h2 hst.hl1 hst.hl2 hx hy fun h' a1 a2 a3 a4 a5 a6 a7 => ?_
    exact hQ h' ⟨.inr ⟨s.heap.objs.size, false, _, a1, a5, hS⟩, a7 _ _ D.TIz D.TITO D.TIi1 D.TIi2 hst.hTI, ⟨_, _, a2⟩, a3, a4, hst.hl1.at fun o e => a7 _ o D.l1z D.l1TO D.l1i1 D.l1i2 e, hst.hl2.at fun o e => a7 _ o D.l2z D.l2TO D.l2i1 D.l2i2 e⟩ a5 a6
      (fun b o hb e => a7 b o (gt L.z hb) (gt L.TO hb) (gt L.i1 hb) (gt L.i2 hb) e) a7
  · refine py_out D q1 q2 (gt L.z (Nat.le_of_lt q3)) hst.hTI hst.h1 hst.h2 hst.hl1 hst.hl2 hx hy fun h' a1 a3 a4 a5 a6 a7 => ?_
    exact hQ h' ⟨.inr ⟨T, true, oa, a1, a7 _ _ (gt L.z (Nat.le_of_lt q3)) (gt L.i1 (Nat.le_of_lt q3)) (gt L.i2 (Nat.le_of_lt q3)) q2, q3⟩, a7 _ _ D.TIz D.TIi1 D.TIi2 hst.hTI, ⟨a, b, a7 _ _ D.TOz D.TOi1 D.TOi2 hTO⟩, a3, a4,
      hst.hl1.at fun o e => a7 _ o D.l1z D.l1i1 D.l1i2 e, hst.hl2.at fun o e => a7 _ o D.l2z D.l2i1 D.l2i2 e⟩ a5 a6
      (fun b o hb e => a7 b o (gt L.z hb) (gt L.i1 hb) (gt L.i2 hb) e) fun b o c1 c2 c3 c4 e => a7 b o c1 c3 c4 e
theorem zst_done {i : Nat} {Q : Option Value → Shared → Prop} (hh : A.handled = none) (D : ZipApart z TI TO i1 i2 l1 l2) (L : Low S z TI TO i1 i2 l1 l2) (hst : ZSt s.heap z TI TO i1 i2 l1 l2 S xs ys i) (hx : xs[i]? = none)
    (hQ : ∀ h', (∀ b o, b ≠ z → b ≠ TO → b ≠ i1 → b ≠ i2 → s.heap.get? b = some o → h'.get? b = some o) → Q none { s with heap := h' }) : wpAny (model prog w) A (pyNext (.ref z)) Q E s := by
  obtain ⟨a, b, hTO⟩ := hst.hTO
  have gt : ∀ {c d : Addr}, d < S → S ≤ c → c ≠ d := fun h1 h2 e => by rw [e] at h2; exact absurd h1 (Nat.not_lt.mpr h2)
  rcases hst.own with q | ⟨T, f, oa, q1, q2, q3⟩
  · exact wpAny_pyNext_zip_end hh D q hst.hTI hTO hst.h1 hst.h2 hst.hl1 hst.hl2 (.inl hx) hQ
  · exact py_end (i2 := i2) (l2 := l2) (k2 := i) (ys := ys) hh D q1 q2 (gt L.z (Nat.le_of_lt q3)) hst.hTI hst.h1 hst.hl1 hx fun h' hk => hQ h' fun b o c1 c2 c3 c4 e => hk b o c1 c3 e
structure ZG (xs ys : Array Value) (lo : Addr) (h : Heap) (as : List Addr) : Prop where
  rise : as.Pairwise (· < ·)
  above : ∀ a ∈ as, lo < a
  pairs : ∀ (j : Nat) (a : Addr), as[j]? = some a → ∃ x y, xs[j]? = some x ∧ ys[j]? = some y ∧ h.get? a = some { cls := .type "tuple", data := .seq #[x, y] }
theorem ZG.there {lo : Addr} {h : Heap} {as : List Addr} (g : ZG xs ys lo h as) {a : Addr} (ha : a ∈ as) : a < h.objs.size := by
  obtain ⟨j, hj⟩ := List.mem_iff_getElem?.mp ha
  obtain ⟨_, _, _, _, e⟩ := g.pairs j a hj
  exact Heap.lt_size e
end
section
variable {prog : Program} {w : World} {A : Around} {s : Shared} {R : Result → Shared → Prop} {z TI TO i1 i2 l1 l2 S : Addr} {xs ys : Array Value}
theorem zip_loop (hh : A.handled = none) (D : ZipApart z TI TO i1 i2 l1 l2) (L : Low S z TI TO i1 i2 l1 l2) (hle : xs.size ≤ ys.size) (hn : xs.size ≤ sizeLine) (res : Value) {h₁ : Heap}
    (hR : ∀ h' tk acc c as, (∀ b o, b ≠ S → b ≠ z → b ≠ TO → b ≠ i1 → b ≠ i2 → h₁.get? b = some o → h'.get? b = some o) → h'.get? S = some { cls := .type "list", dict := none, data := .seq acc c, slots := #[] } → as.length = xs.size → ZG xs ys S h' as →
      acc.toList = as.map Value.ref → R (.ok (.ret res)) { s with heap := h', toks := tk }) :
    ∀ (k i : Nat) (h : Heap) (tk c : Nat) (acc : Array Value) (as : List Addr), xs.size - i = k → i ≤ xs.size → ZSt h z TI TO i1 i2 l1 l2 S xs ys i → (∀ b o, b ≠ S → b ≠ z → b ≠ TO → b ≠ i1 → b ≠ i2 → h₁.get? b = some o → h.get? b = some o) →
      h.get? S = some { cls := .type "list", dict := none, data := .seq acc c, slots := #[] } → acc.toList = as.map Value.ref → as.length = i → ZG xs ys S h as →
      codeAny (model prog w) A (.builtin "list.extend.loop" ⟨[.ref S, .ref z, res], []⟩) R { s with heap := h, toks := tk } := by
  intro k
  induction k with
  | zero =>
    intro i h tk c acc as hk hi hst hkeep hS hacc hal hG
    have hin : i = xs.size := by omega
    refine codeAny_builtin PySem.F.entry_extend_loop ?_
    rw [Around.under_plainId PySem.F.plain_extend_loop _]
    show wpAny _ A.in1 (pyNext (.ref z) >>= _) _ _ _
    refine wpAny_bind (zst_done (s := { s with heap := h, toks := tk }) (A := A.in1) hh D L hst (Array.getElem?_eq_none (by omega)) fun h' he => ?_)
    refine wpAny_pure (hR h' tk acc c as (fun b o h1 h2 h3 h4 h5 e => he b o h2 h3 h4 h5 (hkeep b o h1 h2 h3 h4 h5 e)) (he S _ (Nat.ne_of_gt L.z) (Nat.ne_of_gt L.TO) (Nat.ne_of_gt L.i1) (Nat.ne_of_gt L.i2) hS) (by omega) ⟨hG.rise, hG.above, fun j a hj => ?_⟩ hacc)
    obtain ⟨x, y, e1, e2, e3⟩ := hG.pairs j a hj
    have ha := hG.above a (List.mem_of_getElem? hj)
    exact ⟨x, y, e1, e2, he a _ (Nat.ne_of_gt (Nat.lt_trans L.z ha)) (Nat.ne_of_gt (Nat.lt_trans L.TO ha)) (Nat.ne_of_gt (Nat.lt_trans L.i1 ha)) (Nat.ne_of_gt (Nat.lt_trans L.i2 ha)) e3⟩
  | succ k ih =>
    intro i h tk c acc as hk hi hst hkeep hS hacc hal hG
    have hlt : i < xs.size := by omega
    have hx : xs[i]? = some xs[i] := Array.getElem?_eq_getElem hlt
    have hy : ys[i]? = some (ys[i]'(by omega)) := Array.getElem?_eq_getElem (by omega)
    have hsz : acc.size = i := by rw [← Array.length_toList, hacc, List.length_map, hal]
    have hSl : S < h.objs.size := Heap.lt_size hS
    refine codeAny_builtin PySem.F.entry_extend_loop ?_
    rw [Around.under_plainId PySem.F.plain_extend_loop _]
    show wpAny _ A.in1 (pyNext (.ref z) >>= _) _ _ _
    refine wpAny_bind (zst_item (s := { s with heap := h, toks := tk }) D L hst hSl hx hy fun h' hst' ht hz hup hkp => ?_)
    dsimp only at ht hz hup hkp ⊢
    have hS' := hup S _ (Nat.le_refl _) hS
    have up : ∀ b o, b ≠ S → h'.get? b = some o → (h'.update S (Obj.mapSeq (·.push (Value.ref h.objs.size)))).get? b = some o := fun b o hb e => (Heap.get?_update_other _ _ (Ne.symm hb)).trans e
    show wpAny _ A.in1 (updateSeq S (·.push (Value.ref h.objs.size)) >>= _) _ _ _
    refine wpAny_bind ?_
    refine wpAny_updateSeq hS' rfl (wpAny_pure ⟨plainId_quiet PySem.F.plain_extend_loop _, ih (i + 1) _ tk _ (acc.push (Value.ref h.objs.size)) (as ++ [h.objs.size]) (by omega) hlt (hst'.keep L up)
      (fun b o h1 h2 h3 h4 h5 e => up b o h1 (hkp b o h2 h3 h4 h5 (hkeep b o h1 h2 h3 h4 h5 e))) (Heap.get?_update_self _ hS' rfl) (by rw [Array.toList_push, hacc, List.map_append]; rfl) (by rw [List.length_append, hal]; rfl) ⟨?_, ?_, ?_⟩⟩) (by rw [hsz]; omega) (by show (acc.push (Value.ref h.objs.size)).size ≤ sizeLine + 1; rw [Array.size_push, hsz]; omega)
    · refine List.pairwise_append.mpr ⟨hG.rise, List.pairwise_singleton _ _, fun a ha b hb => ?_⟩
      rw [List.mem_singleton.mp hb]
      exact hG.there ha
    · intro a ha
      rcases List.mem_append.mp ha with ha | ha
      · exact hG.above a ha
      · rw [List.mem_singleton.mp ha]; exact hSl
    · intro j b hj
      rcases Nat.lt_trichotomy j as.length with h1 | h1 | h1
      · rw [List.getElem?_append_left h1] at hj
        obtain ⟨x', y', e1, e2, e3⟩ := hG.pairs j b hj
        have hb := hG.above b (List.mem_of_getElem? hj)
        exact ⟨x', y', e1, e2, up b _ (Nat.ne_of_gt hb) (hup b _ (Nat.le_of_lt hb) e3)⟩
      · subst h1
        have hb : h.objs.size = b := by simpa using hj
        subst hb
        exact ⟨_, _, by rw [hal]; exact hx, by rw [hal]; exact hy, up _ _ (Nat.ne_of_gt hSl) ht⟩
      · have hnone : (as ++ [h.objs.size])[j]? = none := List.getElem?_eq_none (by rw [List.length_append, List.length_singleton]; omega)
        rw [hnone] at hj; cases hj
end
theorem zip_no_len : typeLookup (.type "zip") "__len__" = pure none := by rw [typeLookup_type, builtinLookup_eq_fast]; kernel_rfl
theorem zip_no_hint : typeLookup (.type "zip") "__length_hint__" = pure none := by rw [typeLookup_type, builtinLookup_eq_fast]; kernel_rfl
section
variable {prog : Program} {w : World} {A : Around} {E : Value → Shared → Prop} {s : Shared} {z TI TO i1 i2 l1 l2 : Addr} {xs ys : Array Value}
theorem zip_list {Q : Value → Shared → Prop} (hh : A.handled = none) (D : ZipApart z TI TO i1 i2 l1 l2) (hz : IsZip s.heap z TI TO .none) (hTI : IsPair s.heap TI (.ref i1) (.ref i2)) (hTO : ∃ a b, IsPair s.heap TO a b)
    (h1 : s.heap.IsListIter i1 l1 0) (h2 : s.heap.IsListIter i2 l2 0) (hl1 : s.heap.IsList l1 xs) (hl2 : s.heap.IsList l2 ys) (hle : xs.size ≤ ys.size) (hn : xs.size ≤ sizeLine)
    (hQ : ∀ h' tk acc c as, (∀ b o, b ≠ z → b ≠ TO → b ≠ i1 → b ≠ i2 → s.heap.get? b = some o → h'.get? b = some o) → h'.get? s.heap.objs.size = some { cls := .type "list", dict := none, data := .seq acc c, slots := #[] } → as.length = xs.size → ZG xs ys s.heap.objs.size h' as →
      acc.toList = as.map Value.ref → Q (.ref s.heap.objs.size) { s with heap := h', toks := tk }) :
    wpAny (model prog w) A (call (.type "list") [.ref z]) Q E s := by
  refine callType_codes (Q₁ := fun obj s₁ => obj = .ref s.heap.objs.size ∧ s₁ = { s with heap := s.heap.push { cls := .type "list", data := .seq #[] } }) PySem.F.called_list (PySem.F.typeCall_list_1 _) PySem.F.entry_list_init
    (code_list_new _ ⟨rfl, rfl⟩) fun obj s₁ h₁ => ?_
  obtain ⟨rfl, rfl⟩ := h₁
  have hS : (s.heap.push { cls := .type "list", data := .seq #[] }).get? s.heap.objs.size = some { cls := .type "list", data := .seq #[] } := Heap.get?_push_size _ rfl
  obtain ⟨ta, tb, hTO⟩ := hTO
  have lt : ∀ {b : Addr} {o : Obj}, s.heap.get? b = some o → b < s.heap.objs.size := fun e => Heap.lt_size e
  have L : Low s.heap.objs.size z TI TO i1 i2 l1 l2 := ⟨lt hz, lt hTI, lt hTO, (by obtain ⟨_, e, _⟩ := h1; exact lt e), (by obtain ⟨_, e, _⟩ := h2; exact lt e), (by obtain ⟨_, e, _⟩ := hl1; exact lt e), (by obtain ⟨_, e, _⟩ := hl2; exact lt e)⟩
  refine ⟨⟨_, hS, rfl⟩, PySem.F.args_list_init_2 _ _, ?_⟩
  have hSz : s.heap.objs.size ≠ z := Nat.ne_of_gt L.z
  show wpAny _ _ (do let old ← Builtin.List.listItems (.ref s.heap.objs.size); Builtin.List.listUpdate (.ref s.heap.objs.size) (fun _ => #[]); letGo old.toList.reverse; Builtin.List.listExtendWith (.ref s.heap.objs.size) (.ref z) .none) _ _ _
  refine wpAny_bind ?_
  unfold Builtin.List.listItems
  refine wpAny_bind (wpAny_seqItems hS rfl (wpAny_pure ?_))
  show wpAny _ _ (updateSeq s.heap.objs.size (fun _ => #[]) >>= fun _ => letGo (#[] : Array Value).toList.reverse >>= fun _ => Builtin.List.listExtendWith (.ref s.heap.objs.size) (.ref z) .none) _ _ _
  refine wpAny_bind (wpAny_updateSeq hS rfl ?_)
  have hS₂ := Heap.get?_update_self (Obj.mapSeq (fun _ => (#[] : Array Value))) hS rfl
  have up : ∀ (h : Heap) f, (∀ b o, b ≠ s.heap.objs.size → s.heap.get? b = some o → h.get? b = some o) → ∀ b o, b ≠ s.heap.objs.size → s.heap.get? b = some o → (h.update s.heap.objs.size f).get? b = some o := fun h f q b o hb e => (Heap.get?_update_other _ _ (Ne.symm hb)).trans (q b o hb e)
  have k1 : ∀ b o, b ≠ s.heap.objs.size → s.heap.get? b = some o → (s.heap.push { cls := .type "list", data := .seq #[] }).get? b = some o := fun b o _ e => Heap.get?_push_of_some _ e
  have k2 := up _ (Obj.mapSeq (fun _ => (#[] : Array Value))) k1
  refine wpAny_bind (wpAny_letGo ?_)
  unfold Builtin.List.listExtendWith
  have zz : ∀ {h : Heap}, (∀ b o, b ≠ s.heap.objs.size → s.heap.get? b = some o → h.get? b = some o) → IsZip h z TI TO .none := fun {h} q => q _ _ (Nat.ne_of_lt L.z) hz
  refine wpAny_bind (wpAny_typeOf (T := "zip") ⟨_, zz k2, rfl⟩ ?_)
  have e1 : Builtin.List.listSameRef (.ref s.heap.objs.size) (.ref z) = false := by simp [Builtin.List.listSameRef, hSz]
  have e2 : (Value.type "zip" == Value.type "list") = false := by decide
  have e3 : (Value.type "zip" == Value.type "tuple") = false := by decide
  simp only [e1, e2, e3, Bool.or_false, Bool.false_eq_true, if_false]
  refine wpAny_bind (wpAny_pyIter_zip (s := { s with heap := _ }) (zz k2) ?_)
  refine wpAny_bind (wpAny_holding ?_)
  unfold Builtin.List.listLengthHint
  refine wpAny_bind (wpAny_specialOf (T := "zip") ⟨_, zz k2, rfl⟩ zip_no_len ?_)
  show wpAny _ _ (specialOf (Value.ref z) (Str.ofString "__length_hint__") >>= _) _ _ _
  refine wpAny_bind (wpAny_specialOf (T := "zip") ⟨_, zz k2, rfl⟩ zip_no_hint ?_)
  refine wpAny_pure ?_
  show wpAny _ _ (rule "list.extend.makes-room" >>= fun _ => Builtin.List.listTouch (.ref s.heap.objs.size) >>= fun _ =>
    again (.builtin "list.extend.loop" ⟨[.ref s.heap.objs.size, .ref z, .none], []⟩)) _ _ _
  refine wpAny_bind (wpAny_rule ?_)
  refine wpAny_bind ?_
  show wpAny _ _ (updateSeq s.heap.objs.size (·.push .none) >>= fun _ => updateSeq s.heap.objs.size (·.pop)) _ _ _
  refine wpAny_bind (wpAny_updateSeq hS₂ rfl ?_)
  have hS₃ := Heap.get?_update_self (Obj.mapSeq (·.push Value.none)) hS₂ rfl
  refine wpAny_updateSeq (hz := by seq_fits) hS₃ rfl ?_
  have hS₄ := Heap.get?_update_self (Obj.mapSeq (·.pop)) hS₃ rfl
  have k4 := up _ (Obj.mapSeq (·.pop)) (up _ (Obj.mapSeq (·.push Value.none)) k2)
  refine wpAny_pure ⟨plainId_quiet PySem.F.plain_extend_loop _, ?_⟩
  refine zip_loop (A := A.in1) (s := s) (h₁ := s.heap) hh D L hle hn .none (fun h' tk acc c as hk hS' hl hG hacc => ⟨rfl, hQ h' tk acc c as (fun b o c1 c2 c3 c4 e => hk b o (Nat.ne_of_lt (lt e)) c1 c2 c3 c4 e) hS' hl hG hacc⟩) xs.size 0 _ _ _ _ [] (Nat.sub_zero _) (Nat.zero_le _)
    ⟨.inl (zz k4), k4 _ _ (Nat.ne_of_lt L.TI) hTI, ⟨ta, tb, k4 _ _ (Nat.ne_of_lt L.TO) hTO⟩, h1.at fun o e => k4 _ o (Nat.ne_of_lt L.i1) e, h2.at fun o e => k4 _ o (Nat.ne_of_lt L.i2) e, hl1.at fun o e => k4 _ o (Nat.ne_of_lt L.l1) e, hl2.at fun o e => k4 _ o (Nat.ne_of_lt L.l2) e⟩
    (fun b o c1 _ _ _ _ e => k4 b o c1 e) hS₄ rfl rfl ⟨List.Pairwise.nil, (fun _ ha => nomatch ha), (fun j a hj => by simp at hj)⟩
end
end ZipL
set_option Elab.async false
set_option linter.all false
set_option maxRecDepth 100000
set_option maxHeartbeats 4000000
set_option autoImplicit false
/-! list(zip(a, b)): the rule, its reading over data. -/
namespace ZipL
open PySem PySem.Spec PyProof.Rows L2 D
def putZ : Hp → List Addr → List (V × V) → Hp
  | H, a :: as, p :: kvs => putZ (upd H a (.tup [p.1, p.2])) as kvs
  | H, _, _ => H
theorem putZ_off {b : Addr} : ∀ (as : List Addr) (kvs : List (V × V)) (H : Hp), b ∉ as → putZ H as kvs b = H b
  | [], _, _, _ => rfl
  | _ :: _, [], _, _ => rfl
  | a :: as, p :: kvs, H, h => by
    show putZ (upd H a (.tup [p.1, p.2])) as kvs b = H b
    rw [putZ_off as kvs _ (fun z => h (List.mem_cons_of_mem _ z)), upd_ne (fun z => h (by rw [z]; exact List.mem_cons_self))]
theorem putZ_at : ∀ (as : List Addr) (kvs : List (V × V)) (H : Hp), as.length = kvs.length → as.Nodup → Paired (fun (t : Addr) (p : V × V) => putZ H as kvs t = some (.tup [p.1, p.2])) as kvs
  | [], [], _, _, _ => .nil
  | [], _ :: _, _, h, _ => by cases h
  | _ :: _, [], _, h, _ => by cases h
  | a :: as, p :: kvs, H, h, hn => by
    have hn' := List.nodup_cons.mp hn
    have ih := putZ_at as kvs (upd H a (.tup [p.1, p.2])) (Nat.succ.inj h) hn'.2
    refine .cons ?_ ih
    show putZ (upd H a (.tup [p.1, p.2])) as kvs a = some (.tup [p.1, p.2])
    rw [putZ_off as kvs _ hn'.1, upd_same]
section
variable {X : Cx} {pins : List (Addr × Obj)} {σ : L2.St} {H : Hp} {s : Shared}
theorem zip_laid {h' : Heap} {tk : Nat} {xs ys : List V} {us vs : List Value} {acc : Array Value} {c : Nat} {as : List Addr} {S : Addr} (I : Inv X pins σ H s) (hz : xs.length ≤ sizeLine) (r1 : Vals xs us) (r2 : Vals ys vs) (hle : xs.length ≤ ys.length)
    (hk : ∀ b o, s.heap.get? b = some o → h'.get? b = some o) (hS0 : s.heap.objs.size ≤ S) (hS : h'.get? S = some { cls := .type "list", dict := none, data := .seq acc c, slots := #[] }) (hl : as.length = xs.length) (hG : ZG us.toArray vs.toArray S h' as) (hacc : acc.toList = as.map Value.ref) :
    ∃ H' : Hp, (∀ b o, H b = some o → H' b = some o) ∧ H S = none ∧ (∀ t ∈ as, H t = none) ∧ S ∉ as ∧ H' S = some (.lst (as.map V.ref)) ∧ Paired (fun (t : Addr) (q : V × V) => H' t = some (.tup [q.1, q.2])) as (xs.zip ys) ∧ Inv X pins σ H' { s with heap := h', toks := tk } := by
  have lz : (xs.zip ys).length = xs.length := by rw [List.length_zip]; omega
  have hSn : S ∉ as := fun z => Nat.lt_irrefl _ (hG.above _ z)
  have nd : as.Nodup := List.Pairwise.imp (fun {a b} (h : a < b) => Nat.ne_of_lt h) hG.rise
  have new : ∀ t ∈ as, H t = none := fun t ht => I.hok.fresh (Nat.le_of_lt (Nat.lt_of_le_of_lt hS0 (hG.above t ht)))
  have newS : H S = none := I.hok.fresh hS0
  have atP := putZ_at as (xs.zip ys) (upd H S (.lst (as.map V.ref))) (by omega) nd
  have off : ∀ b, b ∉ as → b ≠ S → putZ (upd H S (.lst (as.map V.ref))) as (xs.zip ys) b = H b := fun b h1 h2 => by rw [putZ_off as _ _ h1, upd_ne h2]
  have low : ∀ b o, s.heap.get? b = some o → b ∉ as ∧ b ≠ S := fun b o e => ⟨fun z => absurd (Heap.lt_size e) (Nat.not_lt.mpr (Nat.le_of_lt (Nat.lt_of_le_of_lt hS0 (hG.above b z)))), Nat.ne_of_lt (Nat.lt_of_lt_of_le (Heap.lt_size e) hS0)⟩
  have kp : ∀ b u, H b = some u → (putZ (upd H S (.lst (as.map V.ref))) as (xs.zip ys)) b = some u := fun b u e => by
    rw [off b (fun z => by rw [new b z] at e; cases e) (fun z => by rw [z, newS] at e; cases e)]
    exact e
  have eS : putZ (upd H S (.lst (as.map V.ref))) as (xs.zip ys) S = some (.lst (as.map V.ref)) := by rw [putZ_off as _ _ hSn, upd_same]
  refine ⟨putZ (upd H S (.lst (as.map V.ref))) as (xs.zip ys), kp, newS, new, hSn, eS, atP, ?_⟩
  refine I.call' (ch := []) rfl ⟨fun b o q _ _ _ => hk b o q, fun b o q _ _ _ => ⟨o.slots, hk b o q⟩, fun b o q n _ => ?_, fun b o q _ => ⟨o, hk b o q⟩, fun b xs q => kp b _ q, fun b o u q => kp b _ q, fun b ps q => ⟨#[], by rw [kp b _ q]; simp⟩⟩ (fun b u q => ?_) I.bare fun b z => by simp at z
  · obtain ⟨z1, z2⟩ := low b o q
    rw [off b z1 z2]
    exact n
  · by_cases hb : b ∈ as
    · obtain ⟨j, pk, e1, e2, e3⟩ := LiI.paired_ix atP hb
      rw [e3] at q
      cases q
      obtain ⟨x, y, f1, f2, f3⟩ := hG.pairs j b e1
      obtain ⟨g1, g2⟩ := List.getElem?_zip_eq_some.mp e2
      obtain ⟨u1, v1, w1⟩ := r1.get g1
      obtain ⟨u2, v2, w2⟩ := r2.get g2
      have t1 : u1 = x := by
        rw [List.getElem?_toArray, v1] at f1
        exact Option.some.inj f1
      have t2 : u2 = y := by
        rw [List.getElem?_toArray, v2] at f2
        exact Option.some.inj f2
      subst t1 t2
      exact ⟨by show 2 ≤ sizeLine; decide, [u1, u2], .cons w1 (.cons w2 .nil), ⟨_, f3, rfl, _, rfl⟩⟩
    · by_cases hb2 : b = S
      · rw [hb2] at q ⊢
        rw [eS] at q
        cases q
        refine ⟨by rw [List.length_map]; omega, acc.toList, c, by rw [hacc]; exact LiI.vals_refs as, ?_⟩
        rw [Array.toArray_toList]
        exact hS
      · rw [off b hb hb2] at q
        exact (I.hok b u q).stay (fun d v _ y => hk d v y) (fun d y => kp d _ y) fun d xs y => kp d _ y
def rListZip (K : PySem.W.Frag) : List V → Hp → VK → Prop := fun vs H1 Q => ∃ a b xs ys, vs = [.ref a, .ref b] ∧ SqL K H1 a xs ∧ SqL K H1 b ys ∧ xs.length ≤ ys.length ∧ xs.length ≤ sizeLine ∧
  ∀ (H' : Hp) (p : Addr) (ts : List Addr), (∀ b o, H1 b = some o → H' b = some o) → H1 p = none → (∀ t ∈ ts, H1 t = none) → p ∉ ts → H' p = some (.lst (ts.map V.ref)) → Paired (fun (t : Addr) (q : V × V) => H' t = some (.tup [q.1, q.2])) ts (xs.zip ys) → Q (.ref p) H'
def tListZip (K : PySem.W.Frag) (ta : TA) : TE := fun σ H Q => ta σ H fun vs H1 => rListZip K vs H1 Q
theorem pe_listZip {e e2 : Expr} {ta : TA} {p p2 pos pos2 : Pos} (hc : X.calm = true) (hg : Gl X "list") (hm : X.mg "list" = none) (hg2 : Gl X "zip") (hm2 : X.mg "zip" = none) (ha : PA X [e, e2] ta)
    (hst : starEach [.Call (.Name "zip" p2) [e, e2] [] pos2] X.env = (false, eval (.Call (.Name "zip" p2) [e, e2] [] pos2) X.env) :: starEach [] X.env := by rfl)
    (hs : starEach [e, e2] X.env = (false, eval e X.env) :: starEach [e2] X.env := by rfl) (hpl : (backTo pos2 (starEach [e2] X.env)).any (·.1) = false := by rfl) :
    PE X (.Call (.Name "list" p) [.Call (.Name "zip" p2) [e, e2] [] pos2] [] pos) (tListZip X.K ta) := by
  refine ⟨fun pins s σ H Q I h => ?_⟩
  refine wpAny_Call_Name_kw (ld_blt (u := .type "list") I hg hm (by decide +kernel) ?_)
  refine PyProof.Rows.callWith_type1 ?_ hst rfl
  rw [hst]
  show wpAny _ _ (spliced ((false, eval (.Call (.Name "zip" p2) [e, e2] [] pos2) X.env) :: backTo pos (starEach [] X.env))) _ _ s
  refine Calls.spliced_cons ?_
  refine Call_ (ld_blt I hg2 hm2 PyProof.Rows.boot_zip (PyProof.Rows.callWith_type1 (thn (ha.run pos2 pins s σ H _ I h) fun us s1 ⟨vs, H1, I1, r1, q1⟩ => ?_) hs hpl))
  obtain ⟨a, b, xs, ys, ex, hqx, hqy, hle, hz, q⟩ := q1
  subst ex
  cases r1 with
  | cons r rr =>
    cases rr with
    | cons r' rr =>
      cases rr
      cases r
      cases r'
      obtain ⟨its, rv, p1, _⟩ := I1.list hqx
      obtain ⟨its2, rv2, p2, _⟩ := I1.list hqy
      have la : a < s1.heap.objs.size := p1.lt
      have lb : b < s1.heap.objs.size := p2.lt
      have l1 := rv.length
      have l2 := rv2.length
      refine call_zip_2 p1.isList p2.isList fun h' hz' hTI hTO h1 h2 hsz hk => ?_
      refine Calls.spliced_nil ?_
      refine zip_list (s := { s1 with heap := h' }) (I1.ok.hd hc) (PySem.W.ktu_apart s1.heap.objs.size a b la lb) hz' hTI ⟨_, _, hTO⟩ h1 h2 (p1.isList.at fun o e => hk _ o e) (p2.isList.at fun o e => hk _ o e) (by simp; omega) (by simp; omega) fun h'' tk acc c as hk2 hS hl hG hacc => ?_
      dsimp only at hk2 hS hl hG
      have hS0 : s1.heap.objs.size ≤ h'.objs.size := by rw [hsz]; exact Nat.le_add_right _ _
      have kk : ∀ b o, s1.heap.get? b = some o → h''.get? b = some o := fun b o e => by
        have hlt := Heap.lt_size e
        exact hk2 b o (Nat.ne_of_lt (Nat.lt_of_lt_of_le hlt (Nat.le_add_right _ _))) (Nat.ne_of_lt (Nat.lt_of_lt_of_le hlt (Nat.le_add_right _ _))) (Nat.ne_of_lt hlt) (Nat.ne_of_lt (Nat.lt_of_lt_of_le hlt (Nat.le_add_right _ _))) (hk b o e)
      obtain ⟨H', k1, k2, k3, k4, k5, k6, J⟩ := zip_laid (tk := tk) I1 hz rv rv2 hle kk hS0 hS (by rw [hl]; simp; omega) hG hacc
      exact ⟨.ref _, H', J, rfl, q H' _ as k1 k2 k3 k4 k5 k6⟩
end
/-! the reading over data -/
section
variable {P : Program} {w : World} {K : PySem.W.Frag} {Ω : Wd} {δ : List AS} {R : KR} {ta : TA}
theorem paired_all {S : Hp} : ∀ {ts : List Addr} {xs ys : List V} {ds es : List PyData} {H' : Hp}, ts.length = (xs.zip ys).length → Paired (fun (t : Addr) (q : V × V) => H' t = some (.tup [q.1, q.2])) ts (xs.zip ys) → DqAll S xs ds → DqAll S ys es → Same S H' →
    DqAll H' (ts.map V.ref) ((ds.zip es).map fun q => .tuple [q.1, q.2])
  | ts, [], ys, _, es, H', hl, h, .nil, _, e => by
    cases ts with
    | nil => exact .nil
    | cons => cases hl
  | ts, x :: xs, [], _, _, H', hl, h, .cons _ _, .nil, e => by
    cases ts with
    | nil => exact .nil
    | cons => cases hl
  | ts, x :: xs, y :: ys, _, _, H', hl, h, .cons h1 t1, .cons h2 t2, e => by
    cases ts with
    | nil => cases hl
    | cons t ts =>
      cases h with
      | cons h0 t0 => exact .cons (.tup h0 (.cons (h1.mono e) (.cons (h2.mono e) .nil))) (paired_all (Nat.succ.inj hl) t0 t1 t2 e)
/-- the lists at hand: data, or cells -/
def ListAt (Ω : Wd) (δ : List AS) (r : Rs) (ds : List PyData) : Prop := LstOf δ r ds ∨ ∃ a, r = .raw (.ref a) ∧ Has Ω a (.lst ds)
theorem listAt {σ : L2.St} {S H : Hp} {v : V} {r : Rs} {ds : List PyData} (g : Good P w Ω δ σ S H) (h : ResOk σ S v r) (e : ListAt Ω δ r ds) : ∃ a xs, v = .ref a ∧ H a = some (.lst xs) ∧ DqAll S xs ds := by
  rcases e with e | ⟨a, rfl, hs⟩
  · exact lst_at g h e
  · cases (show v = .ref a from h)
    obtain ⟨u, h1, xs, rfl, h2⟩ := hs S H g.sub g.wld
    exact ⟨a, xs, rfl, h1, h2⟩
theorem ee_listZip (h : EA P w ta Ω δ fun rs Ω1 δ1 => ∃ r1 r2 ds es, rs = [r1, r2] ∧ ListAt Ω1 δ1 r1 ds ∧ ListAt Ω1 δ1 r2 es ∧ ds.length ≤ es.length ∧ ds.length ≤ sizeLine ∧ R (.dat (.list ((ds.zip es).map fun q => .tuple [q.1, q.2]))) Ω1 δ1) : EE P w (tListZip K ta) Ω δ R := fun σ S H g Q q =>
  h σ S H g _ fun vs rs Ω1 δ1 S1 H1 h1 g1 s1 o1 => by
    obtain ⟨r1, r2, ds, es, rfl, l1, l2, hle, hz, k⟩ := h1
    obtain ⟨v, u, rfl, o2, o3⟩ := two_of o1
    obtain ⟨a, xs, rfl, e1, e2⟩ := listAt g1 o2 l1
    obtain ⟨b, ys, rfl, e3, e4⟩ := listAt g1 o3 l2
    refine ⟨a, b, xs, ys, rfl, SqL.of e1, SqL.of e3, by rw [e2.length, e4.length]; exact hle, by rw [e2.length]; exact hz, fun H' p ts k1 k2 k3 k4 k5 k6 => ?_⟩
    have newT : ∀ t ∈ ts, H1 t = none := k3
    -- the new things stand still from now on
    let S' : Hp := fun c => if c = p ∨ c ∈ ts then H' c else S1 c
    have sS : Same S1 S' := fun c o e => by
      have hc : H1 c = some o := g1.sub c o e
      have n1 : c ≠ p := fun z => by rw [z, k2] at hc; cases hc
      have n2 : c ∉ ts := fun z => by rw [k3 c z] at hc; cases hc
      show (if c = p ∨ c ∈ ts then H' c else S1 c) = some o
      rw [if_neg (fun z => z.elim n1 n2)]
      exact e
    have sH : Same S' H' := fun c o e => by
      have e : (if c = p ∨ c ∈ ts then H' c else S1 c) = some o := e
      by_cases z : c = p ∨ c ∈ ts
      · rw [if_pos z] at e
        exact e
      · rw [if_neg z] at e
        exact k1 c o (g1.sub c o e)
    have gr : Grew S1 H1 S' H' := ⟨sS, sH, k1, fun c o e => by
      have n1 : c ≠ p := fun z => by rw [z, k2] at e; cases e
      have n2 : c ∉ ts := fun z => by rw [k3 c z] at e; cases e
      show (if c = p ∨ c ∈ ts then H' c else S1 c) = S1 c
      rw [if_neg (fun z => z.elim n1 n2)]⟩
    have eS : ∀ c, (c = p ∨ c ∈ ts) → S' c = H' c := fun c z => if_pos z
    have k6' : Paired (fun (t : Addr) (q : V × V) => S' t = some (.tup [q.1, q.2])) ts (xs.zip ys) := by
      have go : ∀ {us : List Addr} {ps : List (V × V)}, (∀ t ∈ us, t ∈ ts) → Paired (fun (t : Addr) (q : V × V) => H' t = some (.tup [q.1, q.2])) us ps → Paired (fun (t : Addr) (q : V × V) => S' t = some (.tup [q.1, q.2])) us ps := by
        intro us ps hm hp
        induction hp with
        | nil => exact .nil
        | cons h0 t0 ih => exact .cons (by rw [eS _ (.inr (hm _ List.mem_cons_self))]; exact h0) (ih fun t ht => hm t (List.mem_cons_of_mem _ ht))
      exact go (fun t ht => ht) k6
    have hd : DqAll S' (ts.map V.ref) ((ds.zip es).map fun q => .tuple [q.1, q.2]) := paired_all (Paired.length k6) k6' e2 e4 sS
    exact q _ _ Ω1 δ1 S' H' k (g1.grew gr) (s1.trans gr.step) (.lst (by rw [eS p (.inl rfl)]; exact k5) hd)
end
end ZipL
set_option Elab.async false
set_option linter.all false
set_option maxRecDepth 100000
set_option maxHeartbeats 4000000
set_option autoImplicit false
namespace G
open PySem PySem.Spec PyProof.Rows L2 D M
local macro_rules | `(tactic| walk_at "d1") => `(tactic| first
  | (with_reducible refine se_seq ?_)
  | (with_reducible refine se_next ?_)
  | (with_reducible refine se_set ?_)
  | (with_reducible refine se_retD ?_)
  | (with_reducible refine se_if ?_)
  | (with_reducible refine ee_lit ?_)
  | (with_reducible refine ee_int ?_)
  | (with_reducible refine ee_str ?_)
  | (with_reducible refine ee_bl ?_)
  | (with_reducible refine ee_non ?_)
  | (with_reducible refine ee_op ?_)
  | (with_reducible refine ee_tup ?_)
  | (with_reducible refine ee_cb ?_)
  | (with_reducible refine et_test ?_)
  | (with_reducible refine ea_nil ?_)
  | (with_reducible refine ea_cons ?_)
  | ((with_reducible refine' ee_dat ?e ?_); (case e => rfl))
  | ((with_reducible refine' ee_own ?e ?_); (case e => rfl))
  | ((with_reducible refine' ee_raw ?e ?_); (case e => rfl))
  | ((with_reducible refine' n_and ?ha ?hb ?_); (case ha => rfl); (case hb => rfl))
  | ((with_reducible refine' n_or ?ha ?hb ?_); (case ha => rfl); (case hb => rfl))
  | ((with_reducible refine' n_xor ?ha ?hb ?_); (case ha => rfl); (case hb => rfl))
  | ((with_reducible refine' n_add ?ha ?hb ?_); (case ha => rfl); (case hb => rfl))
  | ((with_reducible refine' n_sub ?ha ?hb ?hc ?_); (case ha => rfl); (case hb => rfl); (case hc => first | omega | assumption | decide))
  | ((with_reducible refine' n_mul ?ha ?hb ?hc ?_); (case ha => rfl); (case hb => rfl); (case hc => first | omega | assumption | decide))
  | ((with_reducible refine' n_shr ?ha ?hb ?_); (case ha => rfl); (case hb => rfl))
  | ((with_reducible refine' n_shl ?ha ?hb ?hc ?hd ?_); (case ha => rfl); (case hb => rfl); (case hc => first | omega | assumption | decide); (case hd => first | omega | assumption | decide))
  | ((with_reducible refine' n_lt ?ha ?hb ?_); (case ha => rfl); (case hb => rfl))
  | ((with_reducible refine' n_gt ?ha ?hb ?_); (case ha => rfl); (case hb => rfl))
  | ((with_reducible refine' n_eq ?ha ?hb ?_); (case ha => rfl); (case hb => rfl))
  | ((with_reducible refine' n_ne ?ha ?hb ?_); (case ha => rfl); (case hb => rfl))
  | (with_reducible refine ⟨_, rfl, ?_⟩)
  | (with_reducible refine ⟨_, _, rfl, ?_⟩)
  | (with_reducible refine ⟨_, _, _, rfl, ?_⟩)
  | (with_reducible refine ⟨_, _, _, _, rfl, ?_⟩)
  | exact ⟨rfl, _, rfl, rfl⟩)
local macro_rules | `(tactic| walk_at "d") => `(tactic| (repeat (walk_at "d1")))
section
variable {P : Program} {w : World} {K : PySem.W.Frag} {mg : Str → Option Value} {base : Heap}
abbrev cM3 (CM : Addr) (m : Mak) : Cell := .ins CM nsM [.dat (nI m.ins), .raw (.ref m.b), .raw (.ref m.g), .raw (.ref m.s)]
structure AtM (CM : Addr) (m : Mak) (S H : Hp) : Prop where
  h3 : HasAt S H m.a (cM3 CM m)
  h1 : HasAt S H m.g (.lst (m.gates.map enG))
  h2 : HasAt S H m.b (.lst (m.begins.map nI))
structure I_Making_finished where
  m : Mak
  nexts : List Nat
  outs : List Nat
abbrev sp_Making_finished (CM : Addr) : Sp := spR (fun i : I_Making_finished => [.raw (.ref i.m.a), .dat (nL i.nexts), .dat (nL i.outs)]) (fun i S H => AtM CM i.m S H ∧ i.m.begins.length = i.nexts.length ∧ i.nexts.length ≤ 1000) (fun i d => d = enC ⟨i.m.ins, i.m.begins.zip i.nexts, i.m.gates, i.outs⟩)
theorem zip_enM (xs ys : List Nat) : ((xs.map nI).zip (ys.map nI)).map (fun q => PyData.tuple [q.1, q.2]) = (xs.zip ys).map enM := by
  rw [List.zip_map, List.map_map]
  rfl

abbrev N_Making_finished : List Str := ["self", "nexts", "outs"]
theorem sc_Making_finished : FnScope N_Making_finished ["self", "nexts", "outs"] (defScope s_Making_finished) := ⟨rfl, rfl, rfl, by decide +kernel, rfl, by decide +kernel, by decide +kernel⟩
theorem ok_Making_finished {k : Nat} {f : Addr} {fd : FuncData} (F : FnP K "finished" "Making.finished" s_Making_finished f fd) (T : Fx mg) {CM : Addr} (km : KM K CM) : FnOk P w K mg base CX0 (k + 1) f fd ["self", "nexts", "outs"] (sp_Making_finished CM) := by
  refine F.ok sc_Making_finished (spR_len fun _ => rfl) (fun cdv A outer s H vs Q E hr hsp => ?_)
  refine ⟨_, PSs.nox (pss_one (ps_ret (pe_tup (pa_cons (pe_fld (pv 0) rfl) (pa_cons (ZipL.pe_listZip rfl (by rfl) T.list (by rfl) T.zip (pa_cons (pe_fld (pv 0) rfl) (pa_cons (pv 1) pa_nil))) (pa_cons (pe_callTy call_listOf (by rfl) T.list (by decide +kernel) (pa_cons (pe_fld (pv 0) rfl) pa_nil)) (pa_cons (pe_callTy call_listOf (by rfl) T.list (by decide +kernel) (pa_cons (pv 2) pa_nil)) pa_nil))))))), ?_⟩
  refine run_spR (P := P) (w := w) hsp ?_
  rintro ⟨⟨a, b, g, s, ins, begins, gates⟩, nexts, outs⟩ S H ⟨hm, hl, hz⟩
  dsimp only at hm hl hz ⊢
  have h3 : Has (Wd.sym S H [] []) a (cM3 CM ⟨a, b, g, s, ins, begins, gates⟩) := has_old hm.h3 (by simp)
  have h1 : Has (Wd.sym S H [] []) g (.lst (gates.map enG)) := has_old hm.h1 (by simp)
  have h2 : Has (Wd.sym S H [] []) b (.lst (begins.map nI)) := has_old hm.h2 (by simp)
  refine se_retD (ee_tup (ea_cons (ee_f (ns := nsM) (j := 0) (by decide) (ee_raw rfl ⟨a, CM, _, _, rfl, h3, km.cls, km.ins, rfl, (fun i z => nomatch z), ea_cons (ZipL.ee_listZip (ea_cons (ee_f (ns := nsM) (j := 1) (by decide) (ee_raw rfl ⟨a, CM, _, _, rfl, h3, km.cls, km.begins, rfl, (fun i z => nomatch z), ea_cons (ee_dat rfl (ea_nil ⟨_, _, begins.map nI, nexts.map nI, rfl, .inr ⟨b, rfl, h2⟩, .inl rfl, ?_, ?_, ?_⟩))⟩))))⟩))))
  · rw [List.length_map, List.length_map]
    omega
  · rw [List.length_map]
    exact Nat.le_trans (show begins.length ≤ 1000 by omega) (by decide)
  rw [zip_enM]
  refine ea_cons (ee_new (en_cb (ea_cons (ee_f (ns := nsM) (j := 2) (by decide) (ee_raw rfl ⟨a, CM, _, _, rfl, h3, km.cls, km.gates, rfl, (fun i z => nomatch z), ea_nil (cn_listH h1 ?_)⟩)))))
  refine ea_cons (ee_new (en_cb (ea_cons (ee_dat rfl (ea_nil (cn_list (.inl rfl) (ea_nil ⟨[_, _, _, _], rfl, (by show 4 ≤ sizeLine; decide), _, rfl, ⟨_, rfl⟩, _, rfl, rfl⟩)))))))

/-! the sheet: only that nothing is raised -/
structure KSh (K : PySem.W.Frag) (CH : Addr) : Prop where
  cls : Cls K CH
  ins : NoAttr K CH "ins"
  helpers : NoAttr K CH "helpers"
  kept : NoAttr K CH "kept"
  claims : NoAttr K CH "claims"
abbrev nsH : List Str := ["ins", "helpers", "kept", "claims"]
structure Sht where
  a : Addr
  h : Addr
  k : Addr
  c : Addr
  ins : Nat
  hs : List PyData
  ks : List PyData
  cs : List PyData
abbrev cH3 (CH : Addr) (m : Sht) : Cell := .ins CH nsH [.dat (nI m.ins), .raw (.ref m.h), .raw (.ref m.k), .raw (.ref m.c)]
abbrev shC (CH : Addr) (m : Sht) : Cells := [(m.c, .lst m.cs), (m.k, .lst m.ks), (m.h, .lst m.hs), (m.a, cH3 CH m)]
structure I_Sheet_init where
  x : Addr
  ins : Nat
abbrev sp_Sheet_init (CH : Addr) : Sp := spG (fun i : I_Sheet_init => [.raw (.ref i.x), .dat (nI i.ins)]) (fun i _ _ => True) (fun i => [(i.x, .ins CH [] [])]) (fun i r cs => r = .dat .none ∧ ∃ h k c, cs = shC CH ⟨i.x, h, k, c, i.ins, [], [], []⟩)

abbrev N_Sheet_init : List Str := ["self", "ins"]
theorem sc_Sheet_init : FnScope N_Sheet_init ["self", "ins"] (defScope s_Sheet_init) := ⟨rfl, rfl, rfl, by decide +kernel, rfl, by decide +kernel, by decide +kernel⟩
theorem ok_Sheet_init {k : Nat} {f : Addr} {fd : FuncData} (F : FnP K "__init__" "Sheet.__init__" s_Sheet_init f fd) (T : Fx mg) {CH : Addr} (kh : KSh K CH) : FnOk P w K mg base CX0 (k + 1) f fd ["self", "ins"] (sp_Sheet_init CH) := by
  refine F.ok sc_Sheet_init (spG_len fun _ => rfl) (fun cdv A outer s H vs Q E hr hsp => ?_)
  refine ⟨_, PSs.nox (pss_cons (ps_fld (pv 0) (pv 1) rfl)
    (pss_cons (ps_fld (pv 0) (pe_lst pa_nil) rfl)
    (pss_cons (ps_fld (pv 0) (pe_lst pa_nil) rfl)
    (pss_one (ps_fld (pv 0) (pe_lst pa_nil) rfl))))), ?_⟩
  refine run_spG (P := P) (w := w) hsp ?_
  rintro ⟨x, ins⟩ S H -
  dsimp only
  refine se_seq (se_fldC (ns := []) kh.cls kh.ins rfl (by decide) (ee_dat rfl ⟨(fun i z => nomatch z), ee_raw rfl ⟨S, H, _, _, 0, x, [], rfl, rfl, rfl, ?_⟩⟩))
  refine se_seq (se_fldN (ns := ["ins"]) kh.cls kh.helpers (by decide) (by decide) (en_lst (ea_nil ⟨[], rfl, by decide, S, H, _, _, 0, x, _, rfl, rfl, rfl, fun h => ?_⟩)))
  refine se_seq (se_fldN (ns := ["ins", "helpers"]) kh.cls kh.kept (by decide) (by decide) (en_lst (ea_nil ⟨[], rfl, by decide, S, H, _, _, 1, x, _, rfl, rfl, rfl, fun k => ?_⟩)))
  refine se_fldN (ns := ["ins", "helpers", "kept"]) kh.cls kh.claims (by decide) (by decide) (en_lst (ea_nil ⟨[], rfl, by decide, S, H, _, _, 2, x, _, rfl, rfl, rfl, fun c => ?_⟩))
  exact ⟨_, rfl, rfl, h, k, c, rfl⟩

end
end G
set_option Elab.async false
set_option linter.all false
set_option maxRecDepth 100000
set_option maxHeartbeats 4000000
set_option autoImplicit false
namespace G
open PySem PySem.Spec PyProof.Rows L2 D M
local macro_rules | `(tactic| walk_at "d1") => `(tactic| first
  | (with_reducible refine se_seq ?_)
  | (with_reducible refine se_next ?_)
  | (with_reducible refine se_set ?_)
  | (with_reducible refine se_retD ?_)
  | (with_reducible refine se_if ?_)
  | (with_reducible refine ee_lit ?_)
  | (with_reducible refine ee_int ?_)
  | (with_reducible refine ee_str ?_)
  | (with_reducible refine ee_bl ?_)
  | (with_reducible refine ee_non ?_)
  | (with_reducible refine ee_op ?_)
  | (with_reducible refine ee_tup ?_)
  | (with_reducible refine ee_cb ?_)
  | (with_reducible refine et_test ?_)
  | (with_reducible refine ea_nil ?_)
  | (with_reducible refine ea_cons ?_)
  | ((with_reducible refine' ee_dat ?e ?_); (case e => rfl))
  | ((with_reducible refine' ee_own ?e ?_); (case e => rfl))
  | ((with_reducible refine' ee_raw ?e ?_); (case e => rfl))
  | ((with_reducible refine' n_and ?ha ?hb ?_); (case ha => rfl); (case hb => rfl))
  | ((with_reducible refine' n_or ?ha ?hb ?_); (case ha => rfl); (case hb => rfl))
  | ((with_reducible refine' n_xor ?ha ?hb ?_); (case ha => rfl); (case hb => rfl))
  | ((with_reducible refine' n_add ?ha ?hb ?_); (case ha => rfl); (case hb => rfl))
  | ((with_reducible refine' n_sub ?ha ?hb ?hc ?_); (case ha => rfl); (case hb => rfl); (case hc => first | omega | assumption | decide))
  | ((with_reducible refine' n_mul ?ha ?hb ?hc ?_); (case ha => rfl); (case hb => rfl); (case hc => first | omega | assumption | decide))
  | ((with_reducible refine' n_shr ?ha ?hb ?_); (case ha => rfl); (case hb => rfl))
  | ((with_reducible refine' n_shl ?ha ?hb ?hc ?hd ?_); (case ha => rfl); (case hb => rfl); (case hc => first | omega | assumption | decide); (case hd => first | omega | assumption | decide))
  | ((with_reducible refine' n_lt ?ha ?hb ?_); (case ha => rfl); (case hb => rfl))
  | ((with_reducible refine' n_gt ?ha ?hb ?_); (case ha => rfl); (case hb => rfl))
  | ((with_reducible refine' n_eq ?ha ?hb ?_); (case ha => rfl); (case hb => rfl))
  | ((with_reducible refine' n_ne ?ha ?hb ?_); (case ha => rfl); (case hb => rfl))
  | (with_reducible refine ⟨_, rfl, ?_⟩)
  | (with_reducible refine ⟨_, _, rfl, ?_⟩)
  | (with_reducible refine ⟨_, _, _, rfl, ?_⟩)
  | (with_reducible refine ⟨_, _, _, _, rfl, ?_⟩)
  | exact ⟨rfl, _, rfl, rfl⟩)
local macro_rules | `(tactic| walk_at "d") => `(tactic| (repeat (walk_at "d1")))
section
variable {P : Program} {w : World} {K : PySem.W.Frag} {mg : Str → Option Value} {base : Heap}
/-- what may be free or given: a key, a spot -/
def IsTh (d : PyData) : Prop := ∃ x n, d = .tuple [x, nI n] ∧ ShK 0 x
def IsRow (d : PyData) : Prop := ∃ o1 o2 fs gs, d = .tuple [o1, o2, .list fs, .list gs] ∧ fs.length ≤ 100 ∧ gs.length ≤ 100 ∧ (∀ x ∈ fs, IsTh x) ∧ (∀ x ∈ gs, IsTh x)
structure ShOk (m : Sht) : Prop where
  ks : ∀ r ∈ m.ks, IsRow r
  cs : ∀ r ∈ m.cs, IsRow r
  hl : m.hs.length ≤ 1000
  kl : m.ks.length ≤ 1000
  cl : m.cs.length ≤ 1000
structure AtH (CH : Addr) (m : Sht) (S H : Hp) : Prop where
  h3 : HasAt S H m.a (cH3 CH m)
  h2 : HasAt S H m.h (.lst m.hs)
  h1 : HasAt S H m.k (.lst m.ks)
  h0 : HasAt S H m.c (.lst m.cs)
structure HasH (CH : Addr) (m : Sht) (Ω : Wd) : Prop where
  h3 : Has Ω m.a (cH3 CH m)
  h2 : Has Ω m.h (.lst m.hs)
  h1 : Has Ω m.k (.lst m.ks)
  h0 : Has Ω m.c (.lst m.cs)
theorem AtH.old {CH : Addr} {m : Sht} {S H : Hp} {cs : Cells} (h : AtH CH m S H) : HasH CH m (Wd.sym S H [] cs) := ⟨has_old h.h3 (by simp), has_old h.h2 (by simp), has_old h.h1 (by simp), has_old h.h0 (by simp)⟩
theorem HasH.now {CH : Addr} {m : Sht} {Ω : Wd} (h : HasH CH m Ω) (S H : Hp) (e : Same S H) (hw : Ω.W S H) : AtH CH m S H := ⟨h.h3 S H e hw, h.h2 S H e hw, h.h1 S H e hw, h.h0 S H e hw⟩
theorem has_sh {CH : Addr} {m : Sht} {S0 H0 : Hp} {M : List Addr} {rest : Cells} : HasH CH m (Wd.sym S0 H0 M (shC CH m ++ rest)) := ⟨has_cell (n := 3) rfl, has_cell (n := 2) rfl, has_cell (n := 1) rfl, has_cell (n := 0) rfl⟩
theorem sz1000 {n : Nat} (h : n ≤ 1000) : n < sizeLine := Nat.lt_of_le_of_lt h (by decide)
structure I_helper where
  m : Sht
  tb : Nat
  ds : List PyData
  lst : Bool
abbrev sp_Sheet_helper (CH : Addr) : Sp := spG (fun i : I_helper => [.raw (.ref i.m.a), .dat (nI i.tb), .dat (seqD i.lst i.ds)]) (fun i _ _ => i.m.hs.length ≤ 999) (fun i => shC CH i.m) (fun i r cs => r = .dat (.tuple [nI 2, nI i.m.hs.length]) ∧ cs = shC CH { i.m with hs := i.m.hs ++ [.tuple [nI i.tb, .tuple i.ds]] })

abbrev N_Sheet_helper : List Str := ["self", "table", "spots"]
theorem sc_Sheet_helper : FnScope N_Sheet_helper ["self", "table", "spots"] (defScope s_Sheet_helper) := ⟨rfl, rfl, rfl, by decide +kernel, rfl, by decide +kernel, by decide +kernel⟩
theorem ok_Sheet_helper {k : Nat} {f : Addr} {fd : FuncData} (F : FnP K "helper" "Sheet.helper" s_Sheet_helper f fd) (T : Fx mg) {CH : Addr} (kh : KSh K CH) : FnOk P w K mg base CX0 (k + 1) f fd ["self", "table", "spots"] (sp_Sheet_helper CH) := by
  refine F.ok sc_Sheet_helper (spG_len fun _ => rfl) (fun cdv A outer s H vs Q E hr hsp => ?_)
  refine ⟨_, PSs.nox (pss_cons (ps_expr (pe_bm PySem.F.plainAttrs_list PySem.F.slot_list_append PySem.F.type_list_append mt_append (pe_fld (pv 0) rfl) (pa_cons (pe_tup (pa_cons (pv 1) (pa_cons (pe_callTy call_tupOf (by rfl) T.tuple (by decide +kernel) (pa_cons (pv 2) pa_nil)) pa_nil))) pa_nil)))
    (pss_one (ps_ret (pe_tup (pa_cons pe_int (pa_cons (pe_op op_sub (pe_callB call_len2 (by rfl) T.len PySem.boot_len (pa_cons (pe_fld (pv 0) rfl) pa_nil)) pe_int) pa_nil)))))), ?_⟩
  refine run_spG (P := P) (w := w) hsp ?_
  rintro ⟨⟨a, h, kk, c, ins, hs, ks, cs⟩, tb, ds, lb⟩ S H hl
  dsimp only at hl ⊢
  have q : HasH CH ⟨a, h, kk, c, ins, hs, ks, cs⟩ (Wd.sym S H (adr (shC CH ⟨a, h, kk, c, ins, hs, ks, cs⟩)) (shC CH ⟨a, h, kk, c, ins, hs, ks, cs⟩ ++ [])) := has_sh
  have q2 : HasH CH ⟨a, h, kk, c, ins, hs ++ [.tuple [nI tb, .tuple ds]], ks, cs⟩ (Wd.sym S H (adr (shC CH ⟨a, h, kk, c, ins, hs, ks, cs⟩)) (shC CH ⟨a, h, kk, c, ins, hs ++ [.tuple [nI tb, .tuple ds]], ks, cs⟩ ++ [])) := has_sh
  refine se_seq (se_appendC (ee_f (ns := nsH) (j := 1) (by decide) (ee_raw rfl ⟨a, CH, _, _, rfl, q.h3, kh.cls, kh.helpers, rfl, (fun i z => nomatch z), h, _, rfl, q.h2, ?_⟩)))
  refine ee_tup (ea_cons (ee_dat rfl (ea_cons (ee_cb (ea_cons (ee_dat rfl (ea_nil (cb_tuple (seqD_of _ _ _) (ea_nil ⟨[_, _], rfl, (by show 2 ≤ sizeLine; decide), S, H, _, _, 2, _, _, rfl, rfl, rfl, sz1000 (Nat.le_succ_of_le hl), ?_⟩)))))))))
  refine se_retD (ee_tup (ea_cons (ee_lit (ea_cons (ee_op (ee_cb (ea_cons (ee_f (ns := nsH) (j := 1) (by decide) (ee_raw rfl ⟨a, CH, _, _, rfl, q2.h3, kh.cls, kh.helpers, rfl, (fun i z => nomatch z), ea_nil (cb_lenH q2.h2 ?_)⟩)))))))))
  rw [List.length_append, List.length_singleton]
  refine ee_lit (n_sub rfl rfl (by omega) (ea_nil ⟨[_, _], rfl, (by show 2 ≤ sizeLine; decide), _, rfl, _, rfl, (fun i z => nomatch z), ?_, rfl⟩))
  rw [Nat.add_sub_cancel]

structure I_in_key where
  a : Addr
  p : Nat
abbrev sp_Sheet_in_key : Sp := spR (fun i : I_in_key => [.raw (.ref i.a), .dat (nI i.p)]) (fun i S H => True) (fun i d => d = .tuple [.str "in", nI i.p])

abbrev N_Sheet_in_key : List Str := ["self", "place"]
theorem sc_Sheet_in_key : FnScope N_Sheet_in_key ["self", "place"] (defScope s_Sheet_in_key) := ⟨rfl, rfl, rfl, by decide +kernel, rfl, by decide +kernel, by decide +kernel⟩
theorem ok_Sheet_in_key {k : Nat} {f : Addr} {fd : FuncData} (F : FnP K "in_key" "Sheet.in_key" s_Sheet_in_key f fd) (T : Fx mg) {CH : Addr} (kh : KSh K CH) : FnOk P w K mg base CX0 (k + 1) f fd ["self", "place"] sp_Sheet_in_key := by
  refine F.ok sc_Sheet_in_key (spR_len fun _ => rfl) (fun cdv A outer s H vs Q E hr hsp => ?_)
  refine ⟨_, PSs.nox (pss_one (ps_ret (pe_tup (pa_cons pe_str (pa_cons (pv 1) pa_nil))))), ?_⟩
  refine run_spR (P := P) (w := w) hsp ?_
  rintro ⟨a, p⟩ S H -
  dsimp only
  refine se_retD (ee_tup (ea_cons (ee_str (ea_cons (ee_dat rfl (ea_nil ⟨[_, _], rfl, (by show 2 ≤ sizeLine; decide), _, rfl, ⟨_, rfl⟩, _, rfl, rfl⟩))))))

structure I_hold where
  m : Sht
  d1 : PyData
  d2 : PyData
abbrev sp_Sheet_hold (CH : Addr) : Sp := spG (fun i : I_hold => [.raw (.ref i.m.a), .dat i.d1, .dat i.d2]) (fun i _ _ => i.m.ks.length ≤ 999) (fun i => shC CH i.m) (fun i r cs => r = .dat (.tuple [.str "held", nI i.m.ks.length]) ∧ cs = shC CH { i.m with ks := i.m.ks ++ [.tuple [i.d1, i.d2, .list [], .list []]] })

abbrev N_Sheet_hold : List Str := ["self", "one", "other"]
theorem sc_Sheet_hold : FnScope N_Sheet_hold ["self", "one", "other"] (defScope s_Sheet_hold) := ⟨rfl, rfl, rfl, by decide +kernel, rfl, by decide +kernel, by decide +kernel⟩
theorem ok_Sheet_hold {k : Nat} {f : Addr} {fd : FuncData} (F : FnP K "hold" "Sheet.hold" s_Sheet_hold f fd) (T : Fx mg) {CH : Addr} (kh : KSh K CH) : FnOk P w K mg base CX0 (k + 1) f fd ["self", "one", "other"] (sp_Sheet_hold CH) := by
  refine F.ok sc_Sheet_hold (spG_len fun _ => rfl) (fun cdv A outer s H vs Q E hr hsp => ?_)
  refine ⟨_, PSs.nox (pss_cons (ps_expr (pe_bm PySem.F.plainAttrs_list PySem.F.slot_list_append PySem.F.type_list_append mt_append (pe_fld (pv 0) rfl) (pa_cons (pe_tup (pa_cons (pv 1) (pa_cons (pv 2) (pa_cons (pe_lst pa_nil) (pa_cons (pe_lst pa_nil) pa_nil))))) pa_nil)))
    (pss_one (ps_ret (pe_tup (pa_cons pe_str (pa_cons (pe_op op_sub (pe_callB call_len2 (by rfl) T.len PySem.boot_len (pa_cons (pe_fld (pv 0) rfl) pa_nil)) pe_int) pa_nil)))))), ?_⟩
  refine run_spG (P := P) (w := w) hsp ?_
  rintro ⟨⟨a, h, kk, c, ins, hs, ks, cs⟩, d1, d2⟩ S H hl
  dsimp only at hl ⊢
  have q : HasH CH ⟨a, h, kk, c, ins, hs, ks, cs⟩ (Wd.sym S H (adr (shC CH ⟨a, h, kk, c, ins, hs, ks, cs⟩)) (shC CH ⟨a, h, kk, c, ins, hs, ks, cs⟩ ++ [])) := has_sh
  have q2 : HasH CH ⟨a, h, kk, c, ins, hs, ks ++ [.tuple [d1, d2, .list [], .list []]], cs⟩ (Wd.sym S H (adr (shC CH ⟨a, h, kk, c, ins, hs, ks, cs⟩)) (shC CH ⟨a, h, kk, c, ins, hs, ks ++ [.tuple [d1, d2, .list [], .list []]], cs⟩ ++ [])) := has_sh
  refine se_seq (se_appendC (ee_f (ns := nsH) (j := 2) (by decide) (ee_raw rfl ⟨a, CH, _, _, rfl, q.h3, kh.cls, kh.kept, rfl, (fun i z => nomatch z), kk, _, rfl, q.h1, ?_⟩)))
  refine ee_tup (ea_cons (ee_dat rfl (ea_cons (ee_dat rfl (ea_cons (ee_new (en_lst (ea_nil ⟨[], rfl, by decide, ea_cons (ee_new (en_lst (ea_nil ⟨[], rfl, by decide, ea_nil ⟨[_, _, _, _], rfl, (by show 4 ≤ sizeLine; decide), S, H, _, _, 1, _, _, rfl, rfl, rfl, sz1000 (Nat.le_succ_of_le hl), ?_⟩⟩)))⟩))))))))
  refine se_retD (ee_tup (ea_cons (ee_str (ea_cons (ee_op (ee_cb (ea_cons (ee_f (ns := nsH) (j := 2) (by decide) (ee_raw rfl ⟨a, CH, _, _, rfl, q2.h3, kh.cls, kh.kept, rfl, (fun i z => nomatch z), ea_nil (cb_lenH q2.h1 ?_)⟩)))))))))
  rw [List.length_append, List.length_singleton]
  refine ee_lit (n_sub rfl rfl (by omega) (ea_nil ⟨[_, _], rfl, (by show 2 ≤ sizeLine; decide), _, rfl, _, rfl, (fun i z => nomatch z), ?_, rfl⟩))
  rw [Nat.add_sub_cancel]

structure I_claim where
  m : Sht
  d1 : PyData
  d2 : PyData
  fs : List PyData
  gs : List PyData
abbrev sp_Sheet_claim (CH : Addr) : Sp := spG (fun i : I_claim => [.raw (.ref i.m.a), .dat i.d1, .dat i.d2, .dat (.list i.fs), .dat (.list i.gs)]) (fun i _ _ => i.m.cs.length ≤ 999) (fun i => shC CH i.m) (fun i r cs => r = .dat (.tuple [.str "claim", nI i.m.cs.length]) ∧ cs = shC CH { i.m with cs := i.m.cs ++ [.tuple [i.d1, i.d2, .list i.fs, .list i.gs]] })

abbrev N_Sheet_claim : List Str := ["self", "one", "other", "free", "given"]
theorem sc_Sheet_claim : FnScope N_Sheet_claim ["self", "one", "other", "free", "given"] (defScope s_Sheet_claim) := ⟨rfl, rfl, rfl, by decide +kernel, rfl, by decide +kernel, by decide +kernel⟩
theorem ok_Sheet_claim {k : Nat} {f : Addr} {fd : FuncData} (F : FnP K "claim" "Sheet.claim" s_Sheet_claim f fd) (T : Fx mg) {CH : Addr} (kh : KSh K CH) : FnOk P w K mg base CX0 (k + 1) f fd ["self", "one", "other", "free", "given"] (sp_Sheet_claim CH) := by
  refine F.ok sc_Sheet_claim (spG_len fun _ => rfl) (fun cdv A outer s H vs Q E hr hsp => ?_)
  refine ⟨_, PSs.nox (pss_cons (ps_expr (pe_bm PySem.F.plainAttrs_list PySem.F.slot_list_append PySem.F.type_list_append mt_append (pe_fld (pv 0) rfl) (pa_cons (pe_tup (pa_cons (pv 1) (pa_cons (pv 2) (pa_cons (pe_callTy call_listOf (by rfl) T.list (by decide +kernel) (pa_cons (pv 3) pa_nil)) (pa_cons (pe_callTy call_listOf (by rfl) T.list (by decide +kernel) (pa_cons (pv 4) pa_nil)) pa_nil))))) pa_nil)))
    (pss_one (ps_ret (pe_tup (pa_cons pe_str (pa_cons (pe_op op_sub (pe_callB call_len2 (by rfl) T.len PySem.boot_len (pa_cons (pe_fld (pv 0) rfl) pa_nil)) pe_int) pa_nil)))))), ?_⟩
  refine run_spG (P := P) (w := w) hsp ?_
  rintro ⟨⟨a, h, kk, c, ins, hs, ks, cs⟩, d1, d2, fs, gs⟩ S H hl
  dsimp only at hl ⊢
  have q : HasH CH ⟨a, h, kk, c, ins, hs, ks, cs⟩ (Wd.sym S H (adr (shC CH ⟨a, h, kk, c, ins, hs, ks, cs⟩)) (shC CH ⟨a, h, kk, c, ins, hs, ks, cs⟩ ++ [])) := has_sh
  have q2 : HasH CH ⟨a, h, kk, c, ins, hs, ks, cs ++ [.tuple [d1, d2, .list fs, .list gs]]⟩ (Wd.sym S H (adr (shC CH ⟨a, h, kk, c, ins, hs, ks, cs⟩)) (shC CH ⟨a, h, kk, c, ins, hs, ks, cs ++ [.tuple [d1, d2, .list fs, .list gs]]⟩ ++ [])) := has_sh
  refine se_seq (se_appendC (ee_f (ns := nsH) (j := 3) (by decide) (ee_raw rfl ⟨a, CH, _, _, rfl, q.h3, kh.cls, kh.claims, rfl, (fun i z => nomatch z), c, _, rfl, q.h0, ?_⟩)))
  refine ee_tup (ea_cons (ee_dat rfl (ea_cons (ee_dat rfl (ea_cons (ee_new (en_cb (ea_cons (ee_dat rfl (ea_nil (cn_list (.inl rfl) (ea_cons (ee_new (en_cb (ea_cons (ee_dat rfl (ea_nil (cn_list (.inl rfl) (ea_nil ⟨[_, _, _, _], rfl, (by show 4 ≤ sizeLine; decide), S, H, _, _, 0, _, _, rfl, rfl, rfl, sz1000 (Nat.le_succ_of_le hl), ?_⟩)))))))))))))))))))
  refine se_retD (ee_tup (ea_cons (ee_str (ea_cons (ee_op (ee_cb (ea_cons (ee_f (ns := nsH) (j := 3) (by decide) (ee_raw rfl ⟨a, CH, _, _, rfl, q2.h3, kh.cls, kh.claims, rfl, (fun i z => nomatch z), ea_nil (cb_lenH q2.h0 ?_)⟩)))))))))
  rw [List.length_append, List.length_singleton]
  refine ee_lit (n_sub rfl rfl (by omega) (ea_nil ⟨[_, _], rfl, (by show 2 ≤ sizeLine; decide), _, rfl, _, rfl, (fun i z => nomatch z), ?_, rfl⟩))
  rw [Nat.add_sub_cancel]

structure I_step where
  m : Sht
  x : PyData
  n : Nat
  o1 : PyData
  o2 : PyData
  f0 : PyData
  g0 : PyData
  fs : List PyData
  gs : List PyData
abbrev sp_Sheet_step (CH : Addr) : Sp := spG (fun i : I_step => [.raw (.ref i.m.a), .dat (.tuple [i.x, nI i.n]), .dat (.list i.fs), .dat (.list i.gs)]) (fun i _ _ => i.m.ks[i.n]? = some (.tuple [i.o1, i.o2, i.f0, i.g0])) (fun i => shC CH i.m) (fun i r cs => r = .dat .none ∧ cs = shC CH { i.m with ks := i.m.ks.set i.n (.tuple [i.o1, i.o2, .list i.fs, .list i.gs]) })

abbrev N_Sheet_step : List Str := ["self", "key", "free", "given", "one", "other", "old", "older"]
theorem sc_Sheet_step : FnScope N_Sheet_step ["self", "key", "free", "given"] (defScope s_Sheet_step) := ⟨rfl, rfl, rfl, by decide +kernel, rfl, by decide +kernel, by decide +kernel⟩
theorem ok_Sheet_step {k : Nat} {f : Addr} {fd : FuncData} (F : FnP K "step" "Sheet.step" s_Sheet_step f fd) (T : Fx mg) {CH : Addr} (kh : KSh K CH) : FnOk P w K mg base CX0 (k + 1) f fd ["self", "key", "free", "given"] (sp_Sheet_step CH) := by
  refine F.ok sc_Sheet_step (spG_len fun _ => rfl) (fun cdv A outer s H vs Q E hr hsp => ?_)
  refine ⟨_, PSs.nox (pss_cons (ps_asg (pe_ix ix_list (pe_fld (pv 0) rfl) (pe_ix ix_tup (pv 1) pe_int (fun _ _ => rfl)) (fun _ _ => rfl)) (pg_tup rfl (pgs_cons (pg_name (i := 4) sc_Sheet_step.nd rfl (Or.inl rfl)) (pgs_cons (pg_name (i := 5) sc_Sheet_step.nd rfl (Or.inl rfl)) (pgs_cons (pg_name (i := 6) sc_Sheet_step.nd rfl (Or.inl rfl)) (pgs_cons (pg_name (i := 7) sc_Sheet_step.nd rfl (Or.inl rfl)) pgs_nil))))))
    (pss_one (ps_asg (pe_tup (pa_cons (pv 4) (pa_cons (pv 5) (pa_cons (pe_callTy call_listOf (by rfl) T.list (by decide +kernel) (pa_cons (pv 2) pa_nil)) (pa_cons (pe_callTy call_listOf (by rfl) T.list (by decide +kernel) (pa_cons (pv 3) pa_nil)) pa_nil))))) (pg_sub (pe_fld (pv 0) rfl) (pe_ix ix_tup (pv 1) pe_int (fun _ _ => rfl)) set_list)))), ?_⟩
  refine run_spG (P := P) (w := w) hsp ?_
  rintro ⟨⟨a, h, kk, c, ins, hs, ks, cs⟩, x, n, o1, o2, f0, g0, fs, gs⟩ S H hn
  dsimp only at hn ⊢
  have q : HasH CH ⟨a, h, kk, c, ins, hs, ks, cs⟩ (Wd.sym S H (adr (shC CH ⟨a, h, kk, c, ins, hs, ks, cs⟩)) (shC CH ⟨a, h, kk, c, ins, hs, ks, cs⟩ ++ [])) := has_sh
  refine se_seq (se_asg (ee_op (ee_f (ns := nsH) (j := 2) (by decide) (ee_raw rfl ⟨a, CH, _, _, rfl, q.h3, kh.cls, kh.kept, rfl, (fun i z => nomatch z), ee_op (ee_dat rfl (ee_lit (n_ixT rfl rfl (o2_ixH q.h1 rfl hn ⟨_, _, rfl, gs_tup4, ?_⟩))))⟩))))
  refine se_setItC (ee_tup (ea_cons (ee_dat rfl (ea_cons (ee_dat rfl (ea_cons (ee_new (en_cb (ea_cons (ee_dat rfl (ea_nil (cn_list (.inl rfl) (ea_cons (ee_new (en_cb (ea_cons (ee_dat rfl (ea_nil (cn_list (.inl rfl) (ea_nil ⟨[_, _, _, _], rfl, (by show 4 ≤ sizeLine; decide), ?_⟩))))))))))))))))))))
  refine ee_f (ns := nsH) (j := 2) (by decide) (ee_raw rfl ⟨a, CH, _, _, rfl, q.h3, kh.cls, kh.kept, rfl, (fun i z => nomatch z), ee_op (ee_dat rfl (ee_lit (n_ixT rfl rfl ⟨S, H, _, _, 1, kk, _, ks, n, rfl, rfl, rfl, rfl, rfl, (List.getElem?_eq_some_iff.mp hn).1, ?_⟩)))⟩)
  exact ⟨_, rfl, rfl, rfl⟩

end
end G
set_option Elab.async false
set_option linter.all false
set_option maxRecDepth 100000
set_option maxHeartbeats 4000000
set_option autoImplicit false
namespace G
open PySem PySem.Spec PyProof.Rows L2 D M
local macro_rules | `(tactic| walk_at "d1") => `(tactic| first
  | (with_reducible refine se_seq ?_)
  | (with_reducible refine se_next ?_)
  | (with_reducible refine se_set ?_)
  | (with_reducible refine se_retD ?_)
  | (with_reducible refine se_if ?_)
  | (with_reducible refine ee_lit ?_)
  | (with_reducible refine ee_int ?_)
  | (with_reducible refine ee_str ?_)
  | (with_reducible refine ee_bl ?_)
  | (with_reducible refine ee_non ?_)
  | (with_reducible refine ee_op ?_)
  | (with_reducible refine ee_tup ?_)
  | (with_reducible refine ee_cb ?_)
  | (with_reducible refine et_test ?_)
  | (with_reducible refine ea_nil ?_)
  | (with_reducible refine ea_cons ?_)
  | ((with_reducible refine' ee_dat ?e ?_); (case e => rfl))
  | ((with_reducible refine' ee_own ?e ?_); (case e => rfl))
  | ((with_reducible refine' ee_raw ?e ?_); (case e => rfl))
  | ((with_reducible refine' n_and ?ha ?hb ?_); (case ha => rfl); (case hb => rfl))
  | ((with_reducible refine' n_or ?ha ?hb ?_); (case ha => rfl); (case hb => rfl))
  | ((with_reducible refine' n_xor ?ha ?hb ?_); (case ha => rfl); (case hb => rfl))
  | ((with_reducible refine' n_add ?ha ?hb ?_); (case ha => rfl); (case hb => rfl))
  | ((with_reducible refine' n_sub ?ha ?hb ?hc ?_); (case ha => rfl); (case hb => rfl); (case hc => first | omega | assumption | decide))
  | ((with_reducible refine' n_mul ?ha ?hb ?hc ?_); (case ha => rfl); (case hb => rfl); (case hc => first | omega | assumption | decide))
  | ((with_reducible refine' n_shr ?ha ?hb ?_); (case ha => rfl); (case hb => rfl))
  | ((with_reducible refine' n_shl ?ha ?hb ?hc ?hd ?_); (case ha => rfl); (case hb => rfl); (case hc => first | omega | assumption | decide); (case hd => first | omega | assumption | decide))
  | ((with_reducible refine' n_lt ?ha ?hb ?_); (case ha => rfl); (case hb => rfl))
  | ((with_reducible refine' n_gt ?ha ?hb ?_); (case ha => rfl); (case hb => rfl))
  | ((with_reducible refine' n_eq ?ha ?hb ?_); (case ha => rfl); (case hb => rfl))
  | ((with_reducible refine' n_ne ?ha ?hb ?_); (case ha => rfl); (case hb => rfl))
  | (with_reducible refine ⟨_, rfl, ?_⟩)
  | (with_reducible refine ⟨_, _, rfl, ?_⟩)
  | (with_reducible refine ⟨_, _, _, rfl, ?_⟩)
  | (with_reducible refine ⟨_, _, _, _, rfl, ?_⟩)
  | exact ⟨rfl, _, rfl, rfl⟩)
local macro_rules | `(tactic| walk_at "d") => `(tactic| (repeat (walk_at "d1")))
section
variable {P : Program} {w : World} {K : PySem.W.Frag} {mg : Str → Option Value} {base : Heap}
structure I_number where
  m : Sht
  x : PyData
  n : Nat
abbrev sp_Sheet_number (CH : Addr) : Sp := spR (fun i : I_number => [.raw (.ref i.m.a), .dat (.tuple [i.x, nI i.n])]) (fun i S H => AtH CH i.m S H ∧ ShK 0 i.x) (fun i d => True)
theorem sh_in : SeqAt.shaped (.str "in") = true := by decide +kernel
theorem sh_held : SeqAt.shaped (.str "held") = true := by decide +kernel
theorem sh_claim : SeqAt.shaped (.str "claim") = true := by decide +kernel

abbrev N_Sheet_number : List Str := ["self", "thing"]
theorem sc_Sheet_number : FnScope N_Sheet_number ["self", "thing"] (defScope s_Sheet_number) := ⟨rfl, rfl, rfl, by decide +kernel, rfl, by decide +kernel, by decide +kernel⟩
theorem ok_Sheet_number {k : Nat} {f : Addr} {fd : FuncData} (F : FnP K "number" "Sheet.number" s_Sheet_number f fd) (T : Fx mg) {CH : Addr} (kh : KSh K CH) : FnOk P w K mg base CX0 (k + 1) f fd ["self", "thing"] (sp_Sheet_number CH) := by
  refine F.ok sc_Sheet_number (spR_len fun _ => rfl) (fun cdv A outer s H vs Q E hr hsp => ?_)
  refine ⟨_, PSs.nox (pss_cons (ps_if (pt_cmpR (op_eqD hr.units) (pe_ix ix_tup (pv 1) pe_int (fun _ _ => rfl)) pe_str (nomark _))
    (pss_one (ps_ret (pe_ix ix_tup (pv 1) pe_int (fun _ _ => rfl))))
    pss_nil)
    (pss_cons (ps_if (pt_cmpR (op_eqD hr.units) (pe_ix ix_tup (pv 1) pe_int (fun _ _ => rfl)) pe_str (nomark _))
    (pss_one (ps_ret (pe_op op_add (pe_fld (pv 0) rfl) (pe_ix ix_tup (pv 1) pe_int (fun _ _ => rfl)))))
    pss_nil)
    (pss_cons (ps_if (pt_cmpR (op_eqD hr.units) (pe_ix ix_tup (pv 1) pe_int (fun _ _ => rfl)) pe_str (nomark _))
    (pss_one (ps_ret (pe_op op_add (pe_op op_add (pe_fld (pv 0) rfl) (pe_callB call_len2 (by rfl) T.len PySem.boot_len (pa_cons (pe_fld (pv 0) rfl) pa_nil))) (pe_ix ix_tup (pv 1) pe_int (fun _ _ => rfl)))))
    pss_nil)
    (pss_one (ps_ret (pv 1)))))), ?_⟩
  refine run_spR (P := P) (w := w) hsp ?_
  rintro ⟨⟨a, h, kk, c, ins, hs, ks, cs⟩, x, n⟩ S H ⟨ha, hx⟩
  dsimp only at ha hx ⊢
  have q := ha.old (cs := [])
  have hx := hx.shaped (by decide)
  have done : ∀ (d : PyData), (∃ d', Rs.dat d = Rs.dat d' ∧ (∃ cs, Wd.sym S H [] [] = Wd.sym S H [] cs) ∧ ∃ d'', Rs.dat d = Rs.dat d'' ∧ True) := fun d => ⟨d, rfl, ⟨_, rfl⟩, d, rfl, trivial⟩
  refine se_seq (se_if (et_test (ee_op (ee_op (ee_dat rfl (ee_lit (n_ixT rfl rfl (ee_str (o2_eqD hx sh_in ⟨_, rfl, fun _ => ?_, fun _ => ?_⟩)))))))))
  · exact se_retD (ee_op (ee_dat rfl (ee_lit (n_ixT rfl rfl (done _)))))
  refine se_next ?_
  refine se_seq (se_if (et_test (ee_op (ee_op (ee_dat rfl (ee_lit (n_ixT rfl rfl (ee_str (o2_eqD hx sh_held ⟨_, rfl, fun _ => ?_, fun _ => ?_⟩)))))))))
  · refine se_retD (ee_op (ee_f (ns := nsH) (j := 0) (by decide) (ee_raw rfl ⟨a, CH, _, _, rfl, q.h3, kh.cls, kh.ins, rfl, (fun i z => nomatch z), ee_op (ee_dat rfl (ee_lit (n_ixT rfl rfl (n_add rfl rfl (done _)))))⟩)))
  refine se_next ?_
  refine se_seq (se_if (et_test (ee_op (ee_op (ee_dat rfl (ee_lit (n_ixT rfl rfl (ee_str (o2_eqD hx sh_claim ⟨_, rfl, fun _ => ?_, fun _ => ?_⟩)))))))))
  · refine se_retD (ee_op (ee_op (ee_f (ns := nsH) (j := 0) (by decide) (ee_raw rfl ⟨a, CH, _, _, rfl, q.h3, kh.cls, kh.ins, rfl, (fun i z => nomatch z), ee_cb (ea_cons (ee_f (ns := nsH) (j := 2) (by decide) (ee_raw rfl ⟨a, CH, _, _, rfl, q.h3, kh.cls, kh.kept, rfl, (fun i z => nomatch z), ea_nil (cb_lenH q.h1 ?_)⟩)))⟩))))
    exact n_add rfl rfl (ee_op (ee_dat rfl (ee_lit (n_ixT rfl rfl (n_add rfl rfl (done _))))))
  refine se_next ?_
  exact se_retD (ee_dat rfl (done _))

theorem ee_number {Ω : Wd} {δ : List AS} {R : KR} {te : TE} {ta : TA} {E : XK} {CH : Addr} (h : EE P w te Ω δ fun r Ω1 δ1 => ∃ m, r = .raw (.ref m.a) ∧ HasH CH m Ω1 ∧ EA P w ta Ω1 δ1 fun rs Ω2 δ2 => Ω2 = Ω1 ∧ ∃ d, rs = [.dat d] ∧ IsTh d ∧ ∀ d', R (.dat d') Ω2 δ2) : EE P w (tMeth CH "number" (sp_Sheet_number CH) [] E te ta) Ω δ R :=
  ee_methR (h.imp fun r Ω1 δ1 ⟨m, e, hs, k⟩ => ⟨m.a, e, mth_of hs.h3 (by decide), EA.imp k fun rs Ω2 δ2 ⟨e2, d, hrs, ⟨x, n, hd, hx⟩, z⟩ => ⟨⟨m, x, n⟩, by rw [hrs, hd], by simp, fun S H e3 hw => ⟨hs.now S H e3 (by rw [← e2]; exact hw), hx⟩, fun d' _ => z d'⟩⟩)
structure I_numbered where
  m : Sht
  o1 : PyData
  o2 : PyData
  fs : List PyData
  gs : List PyData
abbrev sp_Sheet_numbered (CH : Addr) : Sp := spR (fun i : I_numbered => [.raw (.ref i.m.a), .dat (.tuple [i.o1, i.o2, .list i.fs, .list i.gs])]) (fun i S H => AtH CH i.m S H ∧ i.fs.length ≤ 100 ∧ i.gs.length ≤ 100 ∧ (∀ x ∈ i.fs, IsTh x) ∧ (∀ x ∈ i.gs, IsTh x)) (fun i d => True)
theorem sz100 {n : Nat} (h : n ≤ 100) : n < sizeLine := Nat.lt_of_le_of_lt h (by decide)

abbrev N_Sheet_numbered : List Str := ["self", "row", "one", "other", "free", "given", "thing", "key"]
theorem sc_Sheet_numbered : FnScope N_Sheet_numbered ["self", "row"] (defScope s_Sheet_numbered) := ⟨rfl, rfl, rfl, by decide +kernel, rfl, by decide +kernel, by decide +kernel⟩
theorem ok_Sheet_numbered {k : Nat} {f : Addr} {fd : FuncData} (F : FnP K "numbered" "Sheet.numbered" s_Sheet_numbered f fd) (T : Fx mg) {CH : Addr} (kh : KSh K CH) (c_Sheet_number : CalM P w K mg base k CH "number" ["self", "thing"] (sp_Sheet_number CH)) : FnOk P w K mg base CX0 (k + 1) f fd ["self", "row"] (sp_Sheet_numbered CH) := by
  refine F.ok sc_Sheet_numbered (spR_len fun _ => rfl) (fun cdv A outer s H vs Q E hr hsp => ?_)
  refine ⟨_, PSs.nox (pss_cons (ps_asg (pv 1) (pg_tup rfl (pgs_cons (pg_name (i := 2) sc_Sheet_numbered.nd rfl (Or.inl rfl)) (pgs_cons (pg_name (i := 3) sc_Sheet_numbered.nd rfl (Or.inl rfl)) (pgs_cons (pg_name (i := 4) sc_Sheet_numbered.nd rfl (Or.inl rfl)) (pgs_cons (pg_name (i := 5) sc_Sheet_numbered.nd rfl (Or.inl rfl)) pgs_nil))))))
    (pss_one (ps_ret (pe_tup (pa_cons (pv 2) (pa_cons (pv 3) (pa_cons (pe_lc (own := [("thing", 6)]) (g := gName 6) (by rfl) sc_Sheet_numbered.nd (pi_list (pv 4)) (blkOk_by (own := [("thing", 6)]) (N := N_Sheet_numbered) (sc := defScope s_Sheet_numbered) (by decide +kernel)) (fun _ _ _ _ _ => pg_name (i := 6) sc_Sheet_numbered.nd rfl (Or.inl rfl)) (fun _ _ _ _ _ => pts_nil) (fun _ _ _ _ _ => pe_mcal (pv 0) c_Sheet_number hr (pa_cons (pv 6) pa_nil))) (pa_cons (pe_lc (own := [("key", 7)]) (g := gName 7) (by rfl) sc_Sheet_numbered.nd (pi_list (pv 5)) (blkOk_by (own := [("key", 7)]) (N := N_Sheet_numbered) (sc := defScope s_Sheet_numbered) (by decide +kernel)) (fun _ _ _ _ _ => pg_name (i := 7) sc_Sheet_numbered.nd rfl (Or.inl rfl)) (fun _ _ _ _ _ => pts_nil) (fun _ _ _ _ _ => pe_mcal (pv 0) c_Sheet_number hr (pa_cons (pv 7) pa_nil))) pa_nil)))))))), ?_⟩
  refine run_spR (P := P) (w := w) hsp ?_
  rintro ⟨⟨a, h, kk, c, ins, hs, ks, cs⟩, o1, o2, fs, gs⟩ S H ⟨ha, l1, l2, h1, h2⟩
  dsimp only at ha l1 l2 h1 h2 ⊢
  have q := ha.old (cs := [])
  refine se_seq (se_asg (ee_dat rfl ⟨_, _, rfl, gs_tup4, ?_⟩))
  refine se_retD (ee_tup (ea_cons (ee_dat rfl (ea_cons (ee_dat rfl (ea_cons (ee_new (en_anyX fs id (fun _ => True) (ES.fixed (es_list (ee_dat rfl ⟨_, rfl, (List.map_id _).symm, rfl, sz100 l1, ?_, fun acc _ _ => ?_⟩)))))))))))
  · intro x hx
    exact ⟨_, gs_name, rfl, ee_number (ee_raw rfl ⟨⟨a, h, kk, c, ins, hs, ks, cs⟩, rfl, q, ea_cons (ee_dat rfl (ea_nil ⟨rfl, x, rfl, h1 x hx, fun d => ⟨rfl, rfl, d, rfl, trivial⟩⟩))⟩)⟩
  refine ea_cons (ee_new (en_anyX gs id (fun _ => True) (ES.fixed (es_list (ee_dat rfl ⟨_, rfl, (List.map_id _).symm, rfl, sz100 l2, ?_, fun acc _ _ => ?_⟩)))))
  · intro x hx
    exact ⟨_, gs_name, rfl, ee_number (ee_raw rfl ⟨⟨a, h, kk, c, ins, hs, ks, cs⟩, rfl, q, ea_cons (ee_dat rfl (ea_nil ⟨rfl, x, rfl, h2 x hx, fun d => ⟨rfl, rfl, d, rfl, trivial⟩⟩))⟩)⟩
  refine ea_nil ⟨[_, _, _, _], rfl, (by show 4 ≤ sizeLine; decide), _, rfl, ⟨_, rfl⟩, _, rfl, trivial⟩

theorem ee_numbered {Ω : Wd} {δ : List AS} {R : KR} {te : TE} {ta : TA} {E : XK} {CH : Addr} (h : EE P w te Ω δ fun r Ω1 δ1 => ∃ m, r = .raw (.ref m.a) ∧ HasH CH m Ω1 ∧ EA P w ta Ω1 δ1 fun rs Ω2 δ2 => Ω2 = Ω1 ∧ ∃ d, rs = [.dat d] ∧ IsRow d ∧ ∀ d', R (.dat d') Ω2 δ2) : EE P w (tMeth CH "numbered" (sp_Sheet_numbered CH) [] E te ta) Ω δ R :=
  ee_methR (h.imp fun r Ω1 δ1 ⟨m, e, hs, k⟩ => ⟨m.a, e, mth_of hs.h3 (by decide), EA.imp k fun rs Ω2 δ2 ⟨e2, d, hrs, ⟨o1, o2, fs, gs, hd, hx⟩, z⟩ => ⟨⟨m, o1, o2, fs, gs⟩, by rw [hrs, hd], by simp, fun S H e3 hw => ⟨hs.now S H e3 (by rw [← e2]; exact hw), hx⟩, fun d' _ => z d'⟩⟩)
structure I_paper where
  m : Sht
  es : List PyData
abbrev sp_Sheet_paper (CH : Addr) : Sp := spR (fun i : I_paper => [.raw (.ref i.m.a), .dat (.list i.es)]) (fun i S H => AtH CH i.m S H ∧ ShOk i.m ∧ i.es.length ≤ 100 ∧ ∀ x ∈ i.es, IsTh x) (fun i d => True)

abbrev N_Sheet_paper : List Str := ["self", "ends", "kept", "row", "claims", "key"]
theorem sc_Sheet_paper : FnScope N_Sheet_paper ["self", "ends"] (defScope s_Sheet_paper) := ⟨rfl, rfl, rfl, by decide +kernel, rfl, by decide +kernel, by decide +kernel⟩
theorem ok_Sheet_paper {k : Nat} {f : Addr} {fd : FuncData} (F : FnP K "paper" "Sheet.paper" s_Sheet_paper f fd) (T : Fx mg) {CH : Addr} (kh : KSh K CH) (c_Sheet_number : CalM P w K mg base k CH "number" ["self", "thing"] (sp_Sheet_number CH)) (c_Sheet_numbered : CalM P w K mg base k CH "numbered" ["self", "row"] (sp_Sheet_numbered CH)) : FnOk P w K mg base CX0 (k + 1) f fd ["self", "ends"] (sp_Sheet_paper CH) := by
  refine F.ok sc_Sheet_paper (spR_len fun _ => rfl) (fun cdv A outer s H vs Q E hr hsp => ?_)
  refine ⟨_, PSs.nox (pss_cons (ps_setLc (i := 2) (own := [("row", 3)]) (g := gName 3) (by rfl) sc_Sheet_paper.nd rfl rfl (sw_true rfl rfl rfl (by decide +kernel)) (pi_list (pe_fld (pv 0) rfl)) (blkOk_by (own := [("row", 3)]) (N := N_Sheet_paper) (sc := defScope s_Sheet_paper) (by decide +kernel)) (fun _ _ _ _ _ => pg_name (i := 3) sc_Sheet_paper.nd rfl (Or.inl rfl)) (fun _ _ _ _ _ => pts_nil) (fun _ _ _ _ _ => pe_mcal (pv 0) c_Sheet_numbered hr (pa_cons (pv 3) pa_nil)))
    (pss_cons (ps_setLc (i := 4) (own := [("row", 3)]) (g := gName 3) (by rfl) sc_Sheet_paper.nd rfl rfl (sw_true rfl rfl rfl (by decide +kernel)) (pi_list (pe_fld (pv 0) rfl)) (blkOk_by (own := [("row", 3)]) (N := N_Sheet_paper) (sc := defScope s_Sheet_paper) (by decide +kernel)) (fun _ _ _ _ _ => pg_name (i := 3) sc_Sheet_paper.nd rfl (Or.inl rfl)) (fun _ _ _ _ _ => pts_nil) (fun _ _ _ _ _ => pe_mcal (pv 0) c_Sheet_numbered hr (pa_cons (pv 3) pa_nil)))
    (pss_one (ps_ret (pe_tup (pa_cons (pe_callTy call_listOf (by rfl) T.list (by decide +kernel) (pa_cons (pe_fld (pv 0) rfl) pa_nil)) (pa_cons (pv 2) (pa_cons (pv 4) (pa_cons (pe_lc (own := [("key", 5)]) (g := gName 5) (by rfl) sc_Sheet_paper.nd (pi_list (pv 1)) (blkOk_by (own := [("key", 5)]) (N := N_Sheet_paper) (sc := defScope s_Sheet_paper) (by decide +kernel)) (fun _ _ _ _ _ => pg_name (i := 5) sc_Sheet_paper.nd rfl (Or.inl rfl)) (fun _ _ _ _ _ => pts_nil) (fun _ _ _ _ _ => pe_mcal (pv 0) c_Sheet_number hr (pa_cons (pv 5) pa_nil))) pa_nil))))))))), ?_⟩
  refine run_spR (P := P) (w := w) hsp ?_
  rintro ⟨⟨a, h, kk, c, ins, hs, ks, cs⟩, es⟩ S H ⟨ha, ho, hl, he⟩
  dsimp only at ha ho hl he ⊢
  have q := ha.old (cs := [])
  refine se_seq (se_set (ee_new (en_anyX ks id (fun _ => True) (es_listH (ee_f (ns := nsH) (j := 2) (by decide) (ee_raw rfl ⟨a, CH, _, _, rfl, q.h3, kh.cls, kh.kept, rfl, (fun i z => nomatch z), kk, _, rfl, q.h1, (List.map_id _).symm, rfl, sz1000 ho.kl, ?_, fun acc _ _ => ?_⟩))))))
  · intro x hx
    exact ⟨_, gs_name, rfl, ee_numbered (ee_raw rfl ⟨⟨a, h, kk, c, ins, hs, ks, cs⟩, rfl, q, ea_cons (ee_dat rfl (ea_nil ⟨rfl, x, rfl, ho.ks x hx, fun d => ⟨rfl, rfl, d, rfl, trivial⟩⟩))⟩)⟩
  refine ⟨_, rfl, ?_⟩
  refine se_seq (se_set (ee_new (en_anyX cs id (fun _ => True) (es_listH (ee_f (ns := nsH) (j := 3) (by decide) (ee_raw rfl ⟨a, CH, _, _, rfl, q.h3, kh.cls, kh.claims, rfl, (fun i z => nomatch z), c, _, rfl, q.h0, (List.map_id _).symm, rfl, sz1000 ho.cl, ?_, fun acc _ _ => ?_⟩))))))
  · intro x hx
    exact ⟨_, gs_name, rfl, ee_numbered (ee_raw rfl ⟨⟨a, h, kk, c, ins, hs, ks, cs⟩, rfl, q, ea_cons (ee_dat rfl (ea_nil ⟨rfl, x, rfl, ho.cs x hx, fun d => ⟨rfl, rfl, d, rfl, trivial⟩⟩))⟩)⟩
  refine ⟨_, rfl, ?_⟩
  refine se_retD (ee_tup (ea_cons (ee_new (en_cb (ea_cons (ee_f (ns := nsH) (j := 1) (by decide) (ee_raw rfl ⟨a, CH, _, _, rfl, q.h3, kh.cls, kh.helpers, rfl, (fun i z => nomatch z), ea_nil (cn_listH q.h2 ?_)⟩)))))))
  refine ea_cons (ee_dat rfl (ea_cons (ee_dat rfl (ea_cons (ee_new (en_anyX es id (fun _ => True) (ES.fixed (es_list (ee_dat rfl ⟨_, rfl, (List.map_id _).symm, rfl, sz100 hl, ?_, fun acc _ _ => ?_⟩)))))))))
  · intro x hx
    exact ⟨_, gs_name, rfl, ee_number (ee_raw rfl ⟨⟨a, h, kk, c, ins, hs, ks, cs⟩, rfl, q, ea_cons (ee_dat rfl (ea_nil ⟨rfl, x, rfl, he x hx, fun d => ⟨rfl, rfl, d, rfl, trivial⟩⟩))⟩)⟩
  refine ea_nil ⟨[_, _, _, _], rfl, (by show 4 ≤ sizeLine; decide), _, rfl, ⟨_, rfl⟩, _, rfl, trivial⟩

end
end G
set_option Elab.async false
set_option linter.all false
set_option maxRecDepth 100000
set_option maxHeartbeats 4000000
set_option autoImplicit false
namespace G
open PySem PySem.Spec PyProof.Rows L2 D M
local macro_rules | `(tactic| walk_at "d1") => `(tactic| first
  | (with_reducible refine se_seq ?_)
  | (with_reducible refine se_next ?_)
  | (with_reducible refine se_set ?_)
  | (with_reducible refine se_retD ?_)
  | (with_reducible refine se_if ?_)
  | (with_reducible refine ee_lit ?_)
  | (with_reducible refine ee_int ?_)
  | (with_reducible refine ee_str ?_)
  | (with_reducible refine ee_bl ?_)
  | (with_reducible refine ee_non ?_)
  | (with_reducible refine ee_op ?_)
  | (with_reducible refine ee_tup ?_)
  | (with_reducible refine ee_cb ?_)
  | (with_reducible refine et_test ?_)
  | (with_reducible refine ea_nil ?_)
  | (with_reducible refine ea_cons ?_)
  | ((with_reducible refine' ee_dat ?e ?_); (case e => rfl))
  | ((with_reducible refine' ee_own ?e ?_); (case e => rfl))
  | ((with_reducible refine' ee_raw ?e ?_); (case e => rfl))
  | ((with_reducible refine' n_and ?ha ?hb ?_); (case ha => rfl); (case hb => rfl))
  | ((with_reducible refine' n_or ?ha ?hb ?_); (case ha => rfl); (case hb => rfl))
  | ((with_reducible refine' n_xor ?ha ?hb ?_); (case ha => rfl); (case hb => rfl))
  | ((with_reducible refine' n_add ?ha ?hb ?_); (case ha => rfl); (case hb => rfl))
  | ((with_reducible refine' n_sub ?ha ?hb ?hc ?_); (case ha => rfl); (case hb => rfl); (case hc => first | omega | assumption | decide))
  | ((with_reducible refine' n_mul ?ha ?hb ?hc ?_); (case ha => rfl); (case hb => rfl); (case hc => first | omega | assumption | decide))
  | ((with_reducible refine' n_shr ?ha ?hb ?_); (case ha => rfl); (case hb => rfl))
  | ((with_reducible refine' n_shl ?ha ?hb ?hc ?hd ?_); (case ha => rfl); (case hb => rfl); (case hc => first | omega | assumption | decide); (case hd => first | omega | assumption | decide))
  | ((with_reducible refine' n_lt ?ha ?hb ?_); (case ha => rfl); (case hb => rfl))
  | ((with_reducible refine' n_gt ?ha ?hb ?_); (case ha => rfl); (case hb => rfl))
  | ((with_reducible refine' n_eq ?ha ?hb ?_); (case ha => rfl); (case hb => rfl))
  | ((with_reducible refine' n_ne ?ha ?hb ?_); (case ha => rfl); (case hb => rfl))
  | (with_reducible refine ⟨_, rfl, ?_⟩)
  | (with_reducible refine ⟨_, _, rfl, ?_⟩)
  | (with_reducible refine ⟨_, _, _, rfl, ?_⟩)
  | (with_reducible refine ⟨_, _, _, _, rfl, ?_⟩)
  | exact ⟨rfl, _, rfl, rfl⟩)
local macro_rules | `(tactic| walk_at "d") => `(tactic| (repeat (walk_at "d1")))
section
variable {P : Program} {w : World} {K : PySem.W.Frag} {mg : Str → Option Value} {base : Heap}
structure KT (K : PySem.W.Frag) (CT : Addr) : Prop where
  cls : Cls K CT
  circuit : NoAttr K CT "circuit"
  senses : NoAttr K CT "senses"
  needed : NoAttr K CT "needed"
  sheet : NoAttr K CT "sheet"
  fresh : NoAttr K CT "fresh"
  spots : NoAttr K CT "spots"
  lines : NoAttr K CT "lines"
abbrev nsT : List Str := ["circuit", "senses", "needed", "sheet", "fresh", "spots", "lines"]
structure Tdy where
  c : Circ
  a : Addr
  s : Addr
  t : Addr
  l : Addr
  n : Addr
  nd : Addr
  fr : Addr
  sp : Addr
  ln : Addr
  m : Sht
  fresh : List (Sn × Nat)
  spots : List (NK × PyData)
  lines : List (Int × PyData)
abbrev kvN (f : List (Sn × Nat)) : List (NK × PyData) := f.map fun e => (.tup (kS e.1), nI e.2)
abbrev cT (CT : Addr) (T : Tdy) : Cell := .ins CT nsT [.dat (enC T.c), .raw (.ref T.s), .raw (.ref T.nd), .raw (.ref T.m.a), .raw (.ref T.fr), .raw (.ref T.sp), .raw (.ref T.ln)]
structure AtT (P : Program) (w : World) (CT CS : Addr) (T : Tdy) (S H : Hp) : Prop where
  h0 : HasAt S H T.a (cT CT T)
  hs : AtS P w CS T.s T.t T.l T.n (sensN T.c) S H
  hn : HasAt S H T.nd (.dic P w T.nd (kvF (needN T.c)))
  hf : HasAt S H T.fr (.dic P w T.fr (kvN T.fresh))
  hp : HasAt S H T.sp (.dic P w T.sp T.spots)
  hl : HasAt S H T.ln (.dk T.lines)
structure HasT (P : Program) (w : World) (CT CS : Addr) (T : Tdy) (Ω : Wd) : Prop where
  h0 : Has Ω T.a (cT CT T)
  hs : HasS P w CS Ω T.s T.t T.l T.n (sensN T.c)
  hn : Has Ω T.nd (.dic P w T.nd (kvF (needN T.c)))
  hf : Has Ω T.fr (.dic P w T.fr (kvN T.fresh))
  hp : Has Ω T.sp (.dic P w T.sp T.spots)
  hl : Has Ω T.ln (.dk T.lines)
theorem AtT.old {P : Program} {w : World} {CT CS : Addr} {T : Tdy} {S H : Hp} {cs : Cells} (h : AtT P w CT CS T S H) : HasT P w CT CS T (Wd.sym S H [] cs) :=
  ⟨has_old h.h0 (by simp), h.hs.old, has_old h.hn (by simp), has_old h.hf (by simp), has_old h.hp (by simp), has_old h.hl (by simp)⟩
theorem HasT.now {P : Program} {w : World} {CT CS : Addr} {T : Tdy} {Ω : Wd} (h : HasT P w CT CS T Ω) (S H : Hp) (e : Same S H) (hw : Ω.W S H) : AtT P w CT CS T S H :=
  ⟨h.h0 S H e hw, h.hs.now S H e hw, h.hn S H e hw, h.hf S H e hw, h.hp S H e hw, h.hl S H e hw⟩
abbrev tdR (P : Program) (w : World) (CT CS : Addr) (T : Tdy) : Cells := [(T.a, cT CT T), (T.fr, .dic P w T.fr (kvN T.fresh)), (T.sp, .dic P w T.sp T.spots), (T.ln, .dk T.lines), (T.nd, .dic P w T.nd (kvF (needN T.c)))] ++ senC P w CS T.s T.t T.l T.n (sensN T.c)
abbrev tdC (P : Program) (w : World) (CT CS CH : Addr) (T : Tdy) : Cells := shC CH T.m ++ tdR P w CT CS T
theorem has_td {P : Program} {w : World} {CT CS CH : Addr} {T : Tdy} {S0 H0 : Hp} {M : List Addr} {rest : Cells} : HasT P w CT CS T (Wd.sym S0 H0 M (tdC P w CT CS CH T ++ rest)) :=
  ⟨has_cell (n := 4) rfl, ⟨has_cell (n := 9) rfl, has_cell (n := 10) rfl, has_cell (n := 11) rfl, has_cell (n := 12) rfl⟩, has_cell (n := 8) rfl, has_cell (n := 5) rfl, has_cell (n := 6) rfl, has_cell (n := 7) rfl⟩
theorem has_tdH {P : Program} {w : World} {CT CS CH : Addr} {T : Tdy} {S0 H0 : Hp} {M : List Addr} {rest : Cells} : HasH CH T.m (Wd.sym S0 H0 M (tdC P w CT CS CH T ++ rest)) :=
  ⟨has_cell (n := 3) rfl, has_cell (n := 2) rfl, has_cell (n := 1) rfl, has_cell (n := 0) rfl⟩
abbrev nxtN (c : Circ) (p : Nat) : Sn := (sensN c).say (c.mems.getD (p - c.ins) (0, 0)).2
structure I_TP where
  T : Tdy
  p : Nat
abbrev sp_Tidying_next_sense (P : Program) (w : World) (CT CS : Addr) : Sp := spR (fun i : I_TP => [.raw (.ref i.T.a), .dat (nI i.p)]) (fun i S H => AtT P w CT CS i.T S H ∧ COk i.T.c ∧ i.T.c.ins ≤ i.p ∧ i.p < i.T.c.first) (fun i d => d = enS (nxtN i.T.c i.p))
theorem mem_at {c : Circ} {p : Nat} (h1 : c.ins ≤ p) (h2 : p < c.first) : c.mems[p - c.ins]? = some (c.mems.getD (p - c.ins) (0, 0)) := by
  have hi : p - c.ins < c.mems.length := by
    have := first_eq c
    omega
  rw [List.getD_eq_getElem?_getD, List.getElem?_eq_getElem hi]
  rfl
theorem next_lt {c : Circ} (hc : COk c) {p : Nat} (h1 : c.ins ≤ p) (h2 : p < c.first) : (c.mems.getD (p - c.ins) (0, 0)).2 < (sensN c).told.length := by
  rw [(sens_inv hc).ok.len]
  exact (hc.mem _ (List.mem_of_getElem? (mem_at h1 h2))).2
theorem mem_en {c : Circ} {p : Nat} (h1 : c.ins ≤ p) (h2 : p < c.first) : (c.mems.map enM)[p - c.ins]? = some (enM (c.mems.getD (p - c.ins) (0, 0))) := by
  rw [List.getElem?_map, mem_at h1 h2]
  rfl

abbrev N_Tidying_next_sense : List Str := ["self", "place"]
theorem sc_Tidying_next_sense : FnScope N_Tidying_next_sense ["self", "place"] (defScope s_Tidying_next_sense) := ⟨rfl, rfl, rfl, by decide +kernel, rfl, by decide +kernel, by decide +kernel⟩
theorem ok_Tidying_next_sense {k : Nat} {f : Addr} {fd : FuncData} (F : FnP K "next_sense" "Tidying.next_sense" s_Tidying_next_sense f fd) (T : Fx mg) {CT CS : Addr} (kt : KT K CT) (ks : KS K CS) : FnOk P w K mg base CX0 (k + 1) f fd ["self", "place"] (sp_Tidying_next_sense P w CT CS) := by
  refine F.ok sc_Tidying_next_sense (spR_len fun _ => rfl) (fun cdv A outer s H vs Q E hr hsp => ?_)
  refine ⟨_, PSs.nox (pss_one (ps_ret (pe_ix ix_list (pe_fld (pe_fld (pv 0) rfl) rfl) (pe_ix ix_tup (pe_ix ix_list (pe_ix ix_tup (pe_fld (pv 0) rfl) pe_int (fun _ _ => rfl)) (pe_op op_sub (pv 1) (pe_ix ix_tup (pe_fld (pv 0) rfl) pe_int (fun _ _ => rfl))) (fun _ _ => rfl)) pe_int (fun _ _ => rfl)) (fun _ _ => rfl)))), ?_⟩
  refine run_spR (P := P) (w := w) hsp ?_
  rintro ⟨T, p⟩ S H ⟨hz, hc, h1, h2⟩
  dsimp only at hz hc h1 h2 ⊢
  have ht := hz.old (cs := [])
  refine se_retD (ee_op (ee_told ks (ee_f (ns := nsT) (j := 1) (by decide) (ee_raw rfl ⟨T.a, CT, _, _, rfl, ht.h0, kt.cls, kt.senses, rfl, (fun i z => nomatch z), T.s, T.t, T.l, T.n, sensN T.c, rfl, ht.hs, ee_op (ee_op (ee_op (ee_f (ns := nsT) (j := 0) (by decide) (ee_raw rfl ⟨T.a, CT, _, _, rfl, ht.h0, kt.cls, kt.circuit, rfl, (fun i z => nomatch z), ee_lit (n_ixT rfl rfl (ee_op (ee_dat rfl (ee_op (ee_f (ns := nsT) (j := 0) (by decide) (ee_raw rfl ⟨T.a, CT, _, _, rfl, ht.h0, kt.cls, kt.circuit, rfl, (fun i z => nomatch z), ee_lit (n_ixT rfl rfl (n_sub rfl rfl h1 (n_ixL rfl (mem_en h1 h2) (ee_lit (n_ixT rfl rfl (o2_ixH ht.hs.h1 rfl (told_get (next_lt hc h1 h2)) ⟨_, rfl, ⟨_, rfl⟩, _, rfl, rfl⟩))))))⟩))))))⟩))))⟩))))

abbrev sp_Tidying_own_places (P : Program) (w : World) (CT CS : Addr) : Sp := spR (fun T : Tdy => [.raw (.ref T.a)]) (fun T S H => AtT P w CT CS T S H ∧ COk T.c) (fun T d => d = nL (ownN T.c))

abbrev N_Tidying_own_places : List Str := ["self", "places", "place"]
theorem sc_Tidying_own_places : FnScope N_Tidying_own_places ["self"] (defScope s_Tidying_own_places) := ⟨rfl, rfl, rfl, by decide +kernel, rfl, by decide +kernel, by decide +kernel⟩
theorem ok_Tidying_own_places {k : Nat} {f : Addr} {fd : FuncData} (F : FnP K "own_places" "Tidying.own_places" s_Tidying_own_places f fd) (T : Fx mg) {CT CS : Addr} (kt : KT K CT) (ks : KS K CS) (c_first_gate : Cal P w K mg base k "first_gate" ["circuit"] sp_first_gate) : FnOk P w K mg base CX0 (k + 1) f fd ["self"] (sp_Tidying_own_places P w CT CS) := by
  refine F.ok sc_Tidying_own_places (spR_len fun _ => rfl) (fun cdv A outer s H vs Q E hr hsp => ?_)
  refine ⟨_, PSs.nox (pss_cons (ps_set (i := 1) sc_Tidying_own_places.nd rfl (Or.inl rfl) (pe_listRg rfl (by rfl) T.list (prg_2 (by rfl) T.range (pe_ix ix_tup (pe_fld (pv 0) rfl) pe_int (fun _ _ => rfl)) (pe_cal c_first_gate hr (by rfl) (pa_cons (pe_fld (pv 0) rfl) pa_nil)))))
    (pss_one (ps_ret (pe_lc (own := [("place", 2)]) (g := gName 2) (by rfl) sc_Tidying_own_places.nd (pi_list (pv 1)) (blkOk_by (own := [("place", 2)]) (N := N_Tidying_own_places) (sc := defScope s_Tidying_own_places) (by decide +kernel)) (fun _ _ _ _ _ => pg_name (i := 2) sc_Tidying_own_places.nd rfl (Or.inl rfl)) (fun _ _ _ _ _ => pts_one (pt_cmpR (opK_eqD (K := K) (by rfl) hr.units) (pe_ix (ixK_list (K := K) (by rfl)) (peK_fld (K := K) (by rfl) (peK_fld (K := K) (by rfl) (pv 0) rfl) rfl) (pv 2) (fun _ _ => rfl)) (pe_tup (pa_cons pe_str (pa_cons (pv 2) pa_nil))) (nomark _))) (fun _ _ _ _ _ => pv 2))))), ?_⟩
  refine run_spR (P := P) (w := w) hsp ?_
  rintro T S H ⟨hz, hc⟩
  have ht := hz.old (cs := [])
  have hins := hc.ins
  have hms := hc.mems
  refine se_seq (se_set (ee_new (en_listRg2 (ee_op (ee_f (ns := nsT) (j := 0) (by decide) (ee_raw rfl ⟨T.a, CT, _, _, rfl, ht.h0, kt.cls, kt.circuit, rfl, (fun i z => nomatch z), ee_lit (n_ixT rfl rfl (ee_first_gate (ea_cons (ee_f (ns := nsT) (j := 0) (by decide) (ee_raw rfl ⟨T.a, CT, _, _, rfl, ht.h0, kt.cls, kt.circuit, rfl, (fun i z => nomatch z), ea_nil ⟨T.c, rfl, T.c.ins, T.c.mems.length, rfl, rfl, ?_, ?_⟩⟩)))))⟩))))))
  · show T.c.ins + T.c.mems.length ≤ 1000000
    omega
  have e0 : (List.range T.c.mems.length).map (fun i => nI (T.c.ins + i)) = ((List.range T.c.mems.length).map fun i => T.c.ins + i).map nI := by
    rw [List.map_map]
    rfl
  rw [e0]
  refine ⟨_, rfl, ?_⟩
  refine se_retD (ee_new (en_filtX ((List.range T.c.mems.length).map fun i => T.c.ins + i) nI nI (fun p => decide ((sensN T.c).say p = .pl p)) (es_list (ee_dat rfl ⟨_, rfl, rfl, rfl, ?_, ?_, ?_⟩))))
  · rw [List.length_map, List.length_range]
    exact sz100 hms
  · intro p hp
    obtain ⟨i, hi, rfl⟩ := List.mem_map.mp hp
    have hi := List.mem_range.mp hi
    have hlt : T.c.ins + i < (sensN T.c).told.length := by
      rw [(sens_inv hc).ok.len]
      have := first_eq T.c
      omega
    refine ⟨_, gs_name, rfl, ?_⟩
    refine et_test (ee_op (ee_op (ee_told ks (ee_f (ns := nsT) (j := 1) (by decide) (ee_raw rfl ⟨T.a, CT, _, _, rfl, ht.h0, kt.cls, kt.senses, rfl, (fun i z => nomatch z), T.s, T.t, T.l, T.n, sensN T.c, rfl, ht.hs, ee_dat rfl (o2_ixH ht.hs.h1 rfl (told_get hlt) (ee_tup (ea_cons (ee_str (ea_cons (ee_dat rfl (ea_nil ⟨[_, _], rfl, (by show 2 ≤ sizeLine; decide), o2_eqD (sh_enS _) (sh_enS (.pl (T.c.ins + i))) ⟨_, rfl, rfl, rfl, eqv_enS _ (.pl (T.c.ins + i)), fun _ => ee_dat rfl ⟨rfl, rfl, rfl⟩⟩⟩)))))))⟩)))))
  · exact ⟨_, rfl, ⟨_, rfl⟩, _, rfl, rfl⟩

end
end G
set_option Elab.async false
set_option linter.all false
set_option maxRecDepth 100000
set_option maxHeartbeats 4000000
set_option autoImplicit false
namespace G
open PySem PySem.Spec PyProof.Rows L2 D M
local macro_rules | `(tactic| walk_at "d1") => `(tactic| first
  | (with_reducible refine se_seq ?_)
  | (with_reducible refine se_next ?_)
  | (with_reducible refine se_set ?_)
  | (with_reducible refine se_retD ?_)
  | (with_reducible refine se_if ?_)
  | (with_reducible refine ee_lit ?_)
  | (with_reducible refine ee_int ?_)
  | (with_reducible refine ee_str ?_)
  | (with_reducible refine ee_bl ?_)
  | (with_reducible refine ee_non ?_)
  | (with_reducible refine ee_op ?_)
  | (with_reducible refine ee_tup ?_)
  | (with_reducible refine ee_cb ?_)
  | (with_reducible refine et_test ?_)
  | (with_reducible refine ea_nil ?_)
  | (with_reducible refine ea_cons ?_)
  | ((with_reducible refine' ee_dat ?e ?_); (case e => rfl))
  | ((with_reducible refine' ee_own ?e ?_); (case e => rfl))
  | ((with_reducible refine' ee_raw ?e ?_); (case e => rfl))
  | ((with_reducible refine' n_and ?ha ?hb ?_); (case ha => rfl); (case hb => rfl))
  | ((with_reducible refine' n_or ?ha ?hb ?_); (case ha => rfl); (case hb => rfl))
  | ((with_reducible refine' n_xor ?ha ?hb ?_); (case ha => rfl); (case hb => rfl))
  | ((with_reducible refine' n_add ?ha ?hb ?_); (case ha => rfl); (case hb => rfl))
  | ((with_reducible refine' n_sub ?ha ?hb ?hc ?_); (case ha => rfl); (case hb => rfl); (case hc => first | omega | assumption | decide))
  | ((with_reducible refine' n_mul ?ha ?hb ?hc ?_); (case ha => rfl); (case hb => rfl); (case hc => first | omega | assumption | decide))
  | ((with_reducible refine' n_shr ?ha ?hb ?_); (case ha => rfl); (case hb => rfl))
  | ((with_reducible refine' n_shl ?ha ?hb ?hc ?hd ?_); (case ha => rfl); (case hb => rfl); (case hc => first | omega | assumption | decide); (case hd => first | omega | assumption | decide))
  | ((with_reducible refine' n_lt ?ha ?hb ?_); (case ha => rfl); (case hb => rfl))
  | ((with_reducible refine' n_gt ?ha ?hb ?_); (case ha => rfl); (case hb => rfl))
  | ((with_reducible refine' n_eq ?ha ?hb ?_); (case ha => rfl); (case hb => rfl))
  | ((with_reducible refine' n_ne ?ha ?hb ?_); (case ha => rfl); (case hb => rfl))
  | (with_reducible refine ⟨_, rfl, ?_⟩)
  | (with_reducible refine ⟨_, _, rfl, ?_⟩)
  | (with_reducible refine ⟨_, _, _, rfl, ?_⟩)
  | (with_reducible refine ⟨_, _, _, _, rfl, ?_⟩)
  | exact ⟨rfl, _, rfl, rfl⟩)
local macro_rules | `(tactic| walk_at "d") => `(tactic| (repeat (walk_at "d1")))
section
variable {P : Program} {w : World} {K : PySem.W.Frag} {mg : Str → Option Value} {base : Heap}
/-- what the paper's side of a tidying leans on -/
structure TOk (T : Tdy) : Prop where
  c : COk T.c
  sp : ∀ s, RootS T.c (sensN T.c) s → ∃ a b : Nat, lookD T.spots (.tup (kS s)) = some (.tuple [nI a, nI b])
  ln : ∀ (p : Nat) (d : PyData), dkGet T.lines (p : Int) = some d → IsTh d
theorem th_pair (a b : Nat) : IsTh (.tuple [nI a, nI b]) := ⟨nI a, b, rfl, shK_int 0 _⟩
def TieP (n : Nat) (d : PyData) : Prop := ∃ fs gs, d = .tuple [.list fs, .list gs] ∧ fs.length ≤ n ∧ gs.length ≤ n ∧ (∀ x ∈ fs, IsTh x) ∧ ∀ x ∈ gs, IsTh x
theorem told_root {c : Circ} (hc : COk c) {p : Nat} (hp : p < totN c) : p < (sensN c).told.length ∧ RootS c (sensN c) ((sensN c).say p) := by
  have h : p < (sensN c).told.length := by rw [(sens_inv hc).ok.len]; exact hp
  exact ⟨h, (sens_inv hc).root _ (say_mem h)⟩
theorem not_left {c : Circ} (hc : COk c) {q : Nat} (h : (sensN c).isNot q = true) : ∃ u, (sensN c).get q = some (1, [u]) ∧ RootS c (sensN c) (.pl u) := by
  obtain ⟨u, h1, h2⟩ := notget h
  exact ⟨u, h1, (((sens_inv hc).left _ (get_mem h1)).root u (by simp)).1⟩
abbrev sp_Tidying_tie (P : Program) (w : World) (CT CS : Addr) : Sp := spR (fun i : I_TP => [.raw (.ref i.T.a), .dat (nI i.p)]) (fun i S H => AtT P w CT CS i.T S H ∧ TOk i.T ∧ i.p < totN i.T.c) (fun i d => TieP 2 d)
def HsP (T : Tdy) (p : Nat) (d : PyData) : Prop := d = .none ∨ ((∃ a b : Nat, d = .tuple [nI a, nI b]) ∧ ∃ x, dkGet T.lines (p : Int) = some x)
abbrev sp_Tidying_hung_spot (P : Program) (w : World) (CT CS : Addr) : Sp := spR (fun i : I_TP => [.raw (.ref i.T.a), .dat (nI i.p)]) (fun i S H => AtT P w CT CS i.T S H ∧ TOk i.T ∧ i.p < totN i.T.c) (fun i d => HsP i.T i.p d)
theorem one_all {x : PyData} (h : IsTh x) : ∀ y ∈ [x], IsTh y := fun y hy => by rw [List.mem_singleton.mp hy]; exact h
theorem two_all {x z : PyData} (h : IsTh x) (k : IsTh z) : ∀ y ∈ [x, z], IsTh y := fun y hy => by
  simp at hy
  rcases hy with rfl | rfl
  · exact h
  · exact k

abbrev N_Tidying_tie : List Str := ["self", "place", "word", "worth", "under"]
theorem sc_Tidying_tie : FnScope N_Tidying_tie ["self", "place"] (defScope s_Tidying_tie) := ⟨rfl, rfl, rfl, by decide +kernel, rfl, by decide +kernel, by decide +kernel⟩
theorem ok_Tidying_tie {k : Nat} {f : Addr} {fd : FuncData} (F : FnP K "tie" "Tidying.tie" s_Tidying_tie f fd) (T : Fx mg) {CT CS : Addr} (kt : KT K CT) (ks : KS K CS) (c_Senses_is_not : CalM P w K mg base k CS "is_not" ["self", "place"] (sp_is_not P w CS)) : FnOk P w K mg base CX0 (k + 1) f fd ["self", "place"] (sp_Tidying_tie P w CT CS) := by
  refine F.ok sc_Tidying_tie (spR_len fun _ => rfl) (fun cdv A outer s H vs Q E hr hsp => ?_)
  refine ⟨_, PSs.nox (pss_cons (ps_if (pt_cmp (pc_dnotin (hu_of hr) (pv 1) (pe_fld (pv 0) rfl)))
    (pss_one (ps_ret (pe_tup (pa_cons (pe_lst (pa_cons (pe_tup (pa_cons pe_int (pa_cons (pv 1) pa_nil))) pa_nil)) (pa_cons (pe_lst pa_nil) pa_nil)))))
    pss_nil)
    (pss_cons (ps_asg (pe_ix ix_list (pe_fld (pe_fld (pv 0) rfl) rfl) (pv 1) (fun _ _ => rfl)) (pg_tup rfl (pgs_cons (pg_name (i := 2) sc_Tidying_tie.nd rfl (Or.inl rfl)) (pgs_cons (pg_name (i := 3) sc_Tidying_tie.nd rfl (Or.inl rfl)) pgs_nil))))
    (pss_cons (ps_if (pt_cmpR (op_eqD hr.units) (pv 2) pe_str (nomark _))
    (pss_one (ps_ret (pe_tup (pa_cons (pe_lst (pa_cons (pe_tup (pa_cons pe_int (pa_cons (pv 1) pa_nil))) pa_nil)) (pa_cons (pe_lst (pa_cons (pe_dget (hu_of hr) (pe_fld (pv 0) rfl) (pv 1) (fun _ _ => rfl)) pa_nil)) pa_nil)))))
    pss_nil)
    (pss_cons (ps_if (pt_val (pe_mcal (pe_fld (pv 0) rfl) c_Senses_is_not hr (pa_cons (pv 3) pa_nil)))
    (pss_cons (ps_set (i := 4) sc_Tidying_tie.nd rfl (Or.inl rfl) (pe_ix ix_tup (pe_ix ix_tup (pe_dget (hu_of hr) (pe_fld (pe_fld (pv 0) rfl) rfl) (pv 3) (fun _ _ => rfl)) pe_int (fun _ _ => rfl)) pe_int (fun _ _ => rfl)))
    (pss_one (ps_ret (pe_tup (pa_cons (pe_lst (pa_cons (pe_tup (pa_cons pe_int (pa_cons (pv 1) pa_nil))) (pa_cons (pe_nget hr (pe_fld (pv 0) rfl) (pe_tup (pa_cons pe_str (pa_cons (pv 4) pa_nil))) (fun _ _ => rfl)) pa_nil))) (pa_cons (pe_lst (pa_cons (pe_dget (hu_of hr) (pe_fld (pv 0) rfl) (pv 1) (fun _ _ => rfl)) pa_nil)) pa_nil))))))
    pss_nil)
    (pss_one (ps_ret (pe_tup (pa_cons (pe_lst (pa_cons (pe_dget (hu_of hr) (pe_fld (pv 0) rfl) (pv 1) (fun _ _ => rfl)) pa_nil)) (pa_cons (pe_lst pa_nil) pa_nil))))))))), ?_⟩
  refine run_spR (P := P) (w := w) hsp ?_
  rintro ⟨T, p⟩ S H ⟨hz, hk, hp⟩
  dsimp only at hz hk hp ⊢
  have ht := hz.old (cs := [])
  have hc := hk.c
  obtain ⟨hlt, hroot⟩ := told_root hc hp
  refine se_seq (se_if (et_B (ee_dnotin (ee_dat rfl (ee_f (ns := nsT) (j := 6) (by decide) (ee_raw rfl ⟨T.a, CT, _, _, rfl, ht.h0, kt.cls, kt.lines, rfl, (fun i z => nomatch z), T.ln, (p : Int), T.lines, rfl, rfl, ht.hl, _, rfl, fun hb => ?_, fun hb => ?_⟩))))))
  · refine se_retD (ee_tup (ea_cons (ee_new (en_lst (ea_cons (ee_tup (ea_cons (ee_lit (ea_cons (ee_dat rfl (ea_nil ⟨[_, _], rfl, (by show 2 ≤ sizeLine; decide), ea_nil ⟨[_], rfl, (by show 1 ≤ sizeLine; decide), ea_cons (ee_new (en_lst (ea_nil ⟨[], rfl, by decide, ea_nil ⟨[_, _], rfl, (by show 2 ≤ sizeLine; decide), _, rfl, ⟨_, rfl⟩, _, rfl, _, _, rfl, by simp, by simp, one_all (th_pair 0 p), fun _ z => (nomatch z)⟩⟩)))⟩⟩)))))))))))
  refine se_next ?_
  obtain ⟨x, hx⟩ := Option.isSome_iff_exists.mp (by simpa using hb)
  have hxt := hk.ln p x hx
  refine se_seq (se_asg (ee_op (ee_told ks (ee_f (ns := nsT) (j := 1) (by decide) (ee_raw rfl ⟨T.a, CT, _, _, rfl, ht.h0, kt.cls, kt.senses, rfl, (fun i z => nomatch z), T.s, T.t, T.l, T.n, sensN T.c, rfl, ht.hs, ee_dat rfl (o2_ixH ht.hs.h1 rfl (told_get hlt) ?_)⟩)))))
  cases hs : (sensN T.c).say p with
  | bit b =>
    refine ⟨_, _, rfl, gs_tup2, ?_⟩
    refine se_seq (se_if (et_test (ee_op (ee_dat rfl (ee_str (n_eqS sh_bit sh_bit ⟨_, rfl, fun _ => ?_, fun h => by simp at h⟩))))))
    refine se_retD (ee_tup (ea_cons (ee_new (en_lst (ea_cons (ee_tup (ea_cons (ee_lit (ea_cons (ee_dat rfl (ea_nil ⟨[_, _], rfl, (by show 2 ≤ sizeLine; decide), ea_nil ⟨[_], rfl, (by show 1 ≤ sizeLine; decide), ea_cons (ee_new (en_lst (ea_cons (ee_dget (ee_f (ns := nsT) (j := 6) (by decide) (ee_raw rfl ⟨T.a, CT, _, _, rfl, ht.h0, kt.cls, kt.lines, rfl, (fun i z => nomatch z), T.ln, rfl, ee_dat rfl ⟨(p : Int), T.lines, x, rfl, ht.hl, hx, ea_nil ⟨[_], rfl, (by show 1 ≤ sizeLine; decide), ea_nil ⟨[_, _], rfl, (by show 2 ≤ sizeLine; decide), _, rfl, ⟨_, rfl⟩, _, rfl, _, _, rfl, by simp, by simp, one_all (th_pair 0 p), one_all hxt⟩⟩⟩⟩))))))⟩⟩)))))))))))
  | pl qq =>
    rw [hs] at hroot
    refine ⟨_, _, rfl, gs_tup2, ?_⟩
    refine se_seq (se_if (et_test (ee_op (ee_dat rfl (ee_str (n_eqS sh_place sh_bit ⟨_, rfl, fun h => by simp [place_ne] at h, fun _ => ?_⟩))))))
    refine se_next ?_
    refine se_seq (se_if (et_val (ee_is_not (ee_f (ns := nsT) (j := 1) (by decide) (ee_raw rfl ⟨T.a, CT, _, _, rfl, ht.h0, kt.cls, kt.senses, rfl, (fun i z => nomatch z), T.s, T.t, T.l, T.n, sensN T.c, rfl, ht.hs, ea_cons (ee_dat rfl (ea_nil ⟨rfl, ⟨T.s, T.t, T.l, T.n, sensN T.c, qq⟩, rfl, rfl, rfl, trivial, _, rfl, fun hn => ?_, fun hn => ?_⟩))⟩)))))
    · obtain ⟨u, hu, hur⟩ := not_left hc hn
      obtain ⟨a1, b1, hsp⟩ := hk.sp _ hur
      refine se_seq (se_set (ee_op (ee_op (ee_leftAt ks (ee_f (ns := nsT) (j := 1) (by decide) (ee_raw rfl ⟨T.a, CT, _, _, rfl, ht.h0, kt.cls, kt.senses, rfl, (fun i z => nomatch z), T.s, T.t, T.l, T.n, sensN T.c, rfl, ht.hs, ee_dat rfl ⟨qq, (1, [u]), rfl, rfl, hu, ee_lit (n_ixT rfl rfl (ee_lit (n_ixT rfl rfl ⟨_, rfl, ?_⟩)))⟩⟩))))))
      refine se_retD (ee_tup (ea_cons (ee_new (en_lst (ea_cons (ee_tup (ea_cons (ee_lit (ea_cons (ee_dat rfl (ea_nil ⟨[_, _], rfl, (by show 2 ≤ sizeLine; decide), ea_cons (ee_nget (ee_f (ns := nsT) (j := 5) (by decide) (ee_raw rfl ⟨T.a, CT, _, _, rfl, ht.h0, kt.cls, kt.spots, rfl, (fun i z => nomatch z), ee_tup (ea_cons (ee_str (ea_cons (ee_dat rfl (ea_nil ⟨[_, _], rfl, (by show 2 ≤ sizeLine; decide), T.spots, kS (.pl u), _, ht.hp, congrArg Rs.dat (enS_k (.pl u)), kS_depth _, hsp, ea_nil ⟨[_, _], rfl, (by show 2 ≤ sizeLine; decide), ea_cons (ee_new (en_lst (ea_cons (ee_dget (ee_f (ns := nsT) (j := 6) (by decide) (ee_raw rfl ⟨T.a, CT, _, _, rfl, ht.h0, kt.cls, kt.lines, rfl, (fun i z => nomatch z), T.ln, rfl, ee_dat rfl ⟨(p : Int), T.lines, x, rfl, ht.hl, hx, ea_nil ⟨[_], rfl, (by show 1 ≤ sizeLine; decide), ea_nil ⟨[_, _], rfl, (by show 2 ≤ sizeLine; decide), _, rfl, ⟨_, rfl⟩, _, rfl, _, _, rfl, by simp, by simp, two_all (th_pair 0 p) (th_pair a1 b1), one_all hxt⟩⟩⟩⟩))))))⟩⟩)))))⟩)))⟩)))))))))))
    · refine se_next ?_
      refine se_retD (ee_tup (ea_cons (ee_new (en_lst (ea_cons (ee_dget (ee_f (ns := nsT) (j := 6) (by decide) (ee_raw rfl ⟨T.a, CT, _, _, rfl, ht.h0, kt.cls, kt.lines, rfl, (fun i z => nomatch z), T.ln, rfl, ee_dat rfl ⟨(p : Int), T.lines, x, rfl, ht.hl, hx, ea_nil ⟨[_], rfl, (by show 1 ≤ sizeLine; decide), ea_cons (ee_new (en_lst (ea_nil ⟨[], rfl, by decide, ea_nil ⟨[_, _], rfl, (by show 2 ≤ sizeLine; decide), _, rfl, ⟨_, rfl⟩, _, rfl, _, _, rfl, by simp, by simp, one_all hxt, fun _ z => (nomatch z)⟩⟩)))⟩⟩⟩))))))))

abbrev N_Tidying_hung_spot : List Str := ["self", "place", "word", "worth"]
theorem sc_Tidying_hung_spot : FnScope N_Tidying_hung_spot ["self", "place"] (defScope s_Tidying_hung_spot) := ⟨rfl, rfl, rfl, by decide +kernel, rfl, by decide +kernel, by decide +kernel⟩
theorem ok_Tidying_hung_spot {k : Nat} {f : Addr} {fd : FuncData} (F : FnP K "hung_spot" "Tidying.hung_spot" s_Tidying_hung_spot f fd) (T : Fx mg) {CT CS : Addr} (kt : KT K CT) (ks : KS K CS) (c_Senses_is_not : CalM P w K mg base k CS "is_not" ["self", "place"] (sp_is_not P w CS)) : FnOk P w K mg base CX0 (k + 1) f fd ["self", "place"] (sp_Tidying_hung_spot P w CT CS) := by
  refine F.ok sc_Tidying_hung_spot (spR_len fun _ => rfl) (fun cdv A outer s H vs Q E hr hsp => ?_)
  refine ⟨_, PSs.nox (pss_cons (ps_asg (pe_ix ix_list (pe_fld (pe_fld (pv 0) rfl) rfl) (pv 1) (fun _ _ => rfl)) (pg_tup rfl (pgs_cons (pg_name (i := 2) sc_Tidying_hung_spot.nd rfl (Or.inl rfl)) (pgs_cons (pg_name (i := 3) sc_Tidying_hung_spot.nd rfl (Or.inl rfl)) pgs_nil))))
    (pss_cons (ps_if (PW.pt (pw_or (pt_cmpR (op_eqD hr.units) (pv 2) pe_str (nomark _)) (pw_or1 (pt_cmp (pc_dnotin (hu_of hr) (pv 1) (pe_fld (pv 0) rfl))))))
    (pss_one (ps_ret pe_non))
    pss_nil)
    (pss_cons (ps_if (pt_val (pe_mcal (pe_fld (pv 0) rfl) c_Senses_is_not hr (pa_cons (pv 3) pa_nil)))
    (pss_one (ps_set (i := 3) sc_Tidying_hung_spot.nd rfl (Or.inl rfl) (pe_ix ix_tup (pe_ix ix_tup (pe_dget (hu_of hr) (pe_fld (pe_fld (pv 0) rfl) rfl) (pv 3) (fun _ _ => rfl)) pe_int (fun _ _ => rfl)) pe_int (fun _ _ => rfl))))
    pss_nil)
    (pss_one (ps_ret (pe_nget hr (pe_fld (pv 0) rfl) (pe_tup (pa_cons pe_str (pa_cons (pv 3) pa_nil))) (fun _ _ => rfl))))))), ?_⟩
  refine run_spR (P := P) (w := w) hsp ?_
  rintro ⟨T, p⟩ S H ⟨hz, hk, hp⟩
  dsimp only at hz hk hp ⊢
  have ht := hz.old (cs := [])
  have hc := hk.c
  obtain ⟨hlt, hroot⟩ := told_root hc hp
  refine se_seq (se_asg (ee_op (ee_told ks (ee_f (ns := nsT) (j := 1) (by decide) (ee_raw rfl ⟨T.a, CT, _, _, rfl, ht.h0, kt.cls, kt.senses, rfl, (fun i z => nomatch z), T.s, T.t, T.l, T.n, sensN T.c, rfl, ht.hs, ee_dat rfl (o2_ixH ht.hs.h1 rfl (told_get hlt) ?_)⟩)))))
  cases hs : (sensN T.c).say p with
  | bit b =>
    refine ⟨_, _, rfl, gs_tup2, ?_⟩
    refine se_seq (se_if (et_orB (p := true) (q := false) (et_test (ee_op (ee_dat rfl (ee_str (n_eqS sh_bit sh_bit ⟨_, rfl, by simp, rfl, rfl⟩))))) (fun z => nomatch z) ⟨fun _ => ?_, fun z => nomatch z⟩))
    exact se_retD (ee_non ⟨_, rfl, ⟨_, rfl⟩, _, rfl, .inl rfl⟩)
  | pl qq =>
    rw [hs] at hroot
    refine ⟨_, _, rfl, gs_tup2, ?_⟩
    refine se_seq (se_if (et_orB (p := false) (q := !(dkGet T.lines (p : Int)).isSome) (et_test (ee_op (ee_dat rfl (ee_str (n_eqS sh_place sh_bit ⟨_, rfl, by simp [place_ne], rfl, rfl⟩))))) (fun _ => et_B (ee_dnotin (ee_dat rfl (ee_f (ns := nsT) (j := 6) (by decide) (ee_raw rfl ⟨T.a, CT, _, _, rfl, ht.h0, kt.cls, kt.lines, rfl, (fun i z => nomatch z), T.ln, (p : Int), T.lines, rfl, rfl, ht.hl, _, rfl, rfl, rfl, rfl⟩))))) ⟨fun hb => ?_, fun hb => ?_⟩))
    · exact se_retD (ee_non ⟨_, rfl, ⟨_, rfl⟩, _, rfl, .inl rfl⟩)
    refine se_next ?_
    have hx : ∃ x, dkGet T.lines (p : Int) = some x := Option.isSome_iff_exists.mp (by simpa using hb)
    refine se_seq (se_if (et_val (ee_is_not (ee_f (ns := nsT) (j := 1) (by decide) (ee_raw rfl ⟨T.a, CT, _, _, rfl, ht.h0, kt.cls, kt.senses, rfl, (fun i z => nomatch z), T.s, T.t, T.l, T.n, sensN T.c, rfl, ht.hs, ea_cons (ee_dat rfl (ea_nil ⟨rfl, ⟨T.s, T.t, T.l, T.n, sensN T.c, qq⟩, rfl, rfl, rfl, trivial, _, rfl, fun hn => ?_, fun hn => ?_⟩))⟩)))))
    · obtain ⟨u, hu, hur⟩ := not_left hc hn
      obtain ⟨a1, b1, hsp⟩ := hk.sp _ hur
      refine se_set (ee_op (ee_op (ee_leftAt ks (ee_f (ns := nsT) (j := 1) (by decide) (ee_raw rfl ⟨T.a, CT, _, _, rfl, ht.h0, kt.cls, kt.senses, rfl, (fun i z => nomatch z), T.s, T.t, T.l, T.n, sensN T.c, rfl, ht.hs, ee_dat rfl ⟨qq, (1, [u]), rfl, rfl, hu, ee_lit (n_ixT rfl rfl (ee_lit (n_ixT rfl rfl ⟨_, rfl, ?_⟩)))⟩⟩)))))
      refine se_retD (ee_nget (ee_f (ns := nsT) (j := 5) (by decide) (ee_raw rfl ⟨T.a, CT, _, _, rfl, ht.h0, kt.cls, kt.spots, rfl, (fun i z => nomatch z), ee_tup (ea_cons (ee_str (ea_cons (ee_dat rfl (ea_nil ⟨[_, _], rfl, (by show 2 ≤ sizeLine; decide), T.spots, kS (.pl u), _, ht.hp, congrArg Rs.dat (enS_k (.pl u)), kS_depth _, hsp, _, rfl, ⟨_, rfl⟩, _, rfl, .inr ⟨⟨a1, b1, rfl⟩, hx⟩⟩)))))⟩)))
    · obtain ⟨a1, b1, hsp⟩ := hk.sp _ hroot
      refine se_next ?_
      refine se_retD (ee_nget (ee_f (ns := nsT) (j := 5) (by decide) (ee_raw rfl ⟨T.a, CT, _, _, rfl, ht.h0, kt.cls, kt.spots, rfl, (fun i z => nomatch z), ee_tup (ea_cons (ee_str (ea_cons (ee_dat rfl (ea_nil ⟨[_, _], rfl, (by show 2 ≤ sizeLine; decide), T.spots, kS (.pl qq), _, ht.hp, congrArg Rs.dat (enS_k (.pl qq)), kS_depth _, hsp, _, rfl, ⟨_, rfl⟩, _, rfl, .inr ⟨⟨a1, b1, rfl⟩, hx⟩⟩)))))⟩)))

end
end G
set_option Elab.async false
set_option linter.all false
set_option maxRecDepth 100000
set_option maxHeartbeats 4000000
set_option autoImplicit false
namespace G
open PySem PySem.Spec PyProof.Rows L2 D M
local macro_rules | `(tactic| walk_at "d1") => `(tactic| first
  | (with_reducible refine se_seq ?_)
  | (with_reducible refine se_next ?_)
  | (with_reducible refine se_set ?_)
  | (with_reducible refine se_retD ?_)
  | (with_reducible refine se_if ?_)
  | (with_reducible refine ee_lit ?_)
  | (with_reducible refine ee_int ?_)
  | (with_reducible refine ee_str ?_)
  | (with_reducible refine ee_bl ?_)
  | (with_reducible refine ee_non ?_)
  | (with_reducible refine ee_op ?_)
  | (with_reducible refine ee_tup ?_)
  | (with_reducible refine ee_cb ?_)
  | (with_reducible refine et_test ?_)
  | (with_reducible refine ea_nil ?_)
  | (with_reducible refine ea_cons ?_)
  | ((with_reducible refine' ee_dat ?e ?_); (case e => rfl))
  | ((with_reducible refine' ee_own ?e ?_); (case e => rfl))
  | ((with_reducible refine' ee_raw ?e ?_); (case e => rfl))
  | ((with_reducible refine' n_and ?ha ?hb ?_); (case ha => rfl); (case hb => rfl))
  | ((with_reducible refine' n_or ?ha ?hb ?_); (case ha => rfl); (case hb => rfl))
  | ((with_reducible refine' n_xor ?ha ?hb ?_); (case ha => rfl); (case hb => rfl))
  | ((with_reducible refine' n_add ?ha ?hb ?_); (case ha => rfl); (case hb => rfl))
  | ((with_reducible refine' n_sub ?ha ?hb ?hc ?_); (case ha => rfl); (case hb => rfl); (case hc => first | omega | assumption | decide))
  | ((with_reducible refine' n_mul ?ha ?hb ?hc ?_); (case ha => rfl); (case hb => rfl); (case hc => first | omega | assumption | decide))
  | ((with_reducible refine' n_shr ?ha ?hb ?_); (case ha => rfl); (case hb => rfl))
  | ((with_reducible refine' n_shl ?ha ?hb ?hc ?hd ?_); (case ha => rfl); (case hb => rfl); (case hc => first | omega | assumption | decide); (case hd => first | omega | assumption | decide))
  | ((with_reducible refine' n_lt ?ha ?hb ?_); (case ha => rfl); (case hb => rfl))
  | ((with_reducible refine' n_gt ?ha ?hb ?_); (case ha => rfl); (case hb => rfl))
  | ((with_reducible refine' n_eq ?ha ?hb ?_); (case ha => rfl); (case hb => rfl))
  | ((with_reducible refine' n_ne ?ha ?hb ?_); (case ha => rfl); (case hb => rfl))
  | (with_reducible refine ⟨_, rfl, ?_⟩)
  | (with_reducible refine ⟨_, _, rfl, ?_⟩)
  | (with_reducible refine ⟨_, _, _, rfl, ?_⟩)
  | (with_reducible refine ⟨_, _, _, _, rfl, ?_⟩)
  | exact ⟨rfl, _, rfl, rfl⟩)
local macro_rules | `(tactic| walk_at "d") => `(tactic| (repeat (walk_at "d1")))
section
variable {P : Program} {w : World} {K : PySem.W.Frag} {mg : Str → Option Value} {base : Heap}
def SpotP (d : PyData) : Prop := d = .none ∨ ∃ a b : Nat, d = .tuple [nI a, nI b]
structure I_reck where
  T : Tdy
  i : Nat
  g : Gate
abbrev sp_Tidying_reckoned (P : Program) (w : World) (CT CS : Addr) : Sp := spR (fun i : I_reck => [.raw (.ref i.T.a), .dat (nI (i.T.c.first + i.i))]) (fun i S H => AtT P w CT CS i.T S H ∧ TOk i.T ∧ i.T.c.gates[i.i]? = some i.g) (fun i d => SpotP d)

abbrev N_Tidying_reckoned : List Str := ["self", "place", "table", "places", "one"]
theorem sc_Tidying_reckoned : FnScope N_Tidying_reckoned ["self", "place"] (defScope s_Tidying_reckoned) := ⟨rfl, rfl, rfl, by decide +kernel, rfl, by decide +kernel, by decide +kernel⟩
theorem ok_Tidying_reckoned {k : Nat} {f : Addr} {fd : FuncData} (F : FnP K "reckoned" "Tidying.reckoned" s_Tidying_reckoned f fd) (T : Fx mg) {CT CS : Addr} (kt : KT K CT) (ks : KS K CS) (c_Senses_is_gate_left : CalM P w K mg base k CS "is_gate_left" ["self", "table", "senses"] (sp_is_gate_left P w CS)) (c_first_gate : Cal P w K mg base k "first_gate" ["circuit"] sp_first_gate) : FnOk P w K mg base CX0 (k + 1) f fd ["self", "place"] (sp_Tidying_reckoned P w CT CS) := by
  refine F.ok sc_Tidying_reckoned (spR_len fun _ => rfl) (fun cdv A outer s H vs Q E hr hsp => ?_)
  refine ⟨_, PSs.nox (pss_cons (ps_asg (pe_ix ix_list (pe_ix ix_tup (pe_fld (pv 0) rfl) pe_int (fun _ _ => rfl)) (pe_op op_sub (pv 1) (pe_cal c_first_gate hr (by rfl) (pa_cons (pe_fld (pv 0) rfl) pa_nil))) (fun _ _ => rfl)) (pg_tup rfl (pgs_cons (pg_name (i := 2) sc_Tidying_reckoned.nd rfl (Or.inl rfl)) (pgs_cons (pg_name (i := 3) sc_Tidying_reckoned.nd rfl (Or.inl rfl)) pgs_nil))))
    (pss_cons (ps_if (pt_val (pe_mcal (pe_fld (pv 0) rfl) c_Senses_is_gate_left hr (pa_cons (pv 2) (pa_cons (pe_lc (own := [("one", 4)]) (g := gName 4) (by rfl) sc_Tidying_reckoned.nd (pi_tup (pv 3)) (blkOk_by (own := [("one", 4)]) (N := N_Tidying_reckoned) (sc := defScope s_Tidying_reckoned) (by decide +kernel)) (fun _ _ _ _ _ => pg_name (i := 4) sc_Tidying_reckoned.nd rfl (Or.inl rfl)) (fun _ _ _ _ _ => pts_nil) (fun _ _ _ _ _ => pe_ix (ixK_list (K := K) (by rfl)) (peK_fld (K := K) (by rfl) (peK_fld (K := K) (by rfl) (pv 0) rfl) rfl) (pv 4) (fun _ _ => rfl))) pa_nil))))
    (pss_one (ps_ret (pe_nget hr (pe_fld (pv 0) rfl) (pe_ix ix_list (pe_fld (pe_fld (pv 0) rfl) rfl) (pv 1) (fun _ _ => rfl)) (fun _ _ => rfl))))
    pss_nil)
    (pss_one (ps_ret pe_non)))), ?_⟩
  refine run_spR (P := P) (w := w) hsp ?_
  rintro ⟨T, i, g⟩ S H ⟨hz, hk, hg⟩
  dsimp only at hz hk hg ⊢
  have ht := hz.old (cs := [])
  have hc := hk.c
  have hzi := sens_inv hc
  obtain ⟨g1, g2, g3⟩ := hc.gate _ _ hg
  have hi : i < T.c.gates.length := (List.getElem?_eq_some_iff.mp hg).1
  obtain ⟨hlt, hroot⟩ := told_root hc (show T.c.first + i < totN T.c by unfold totN; omega)
  obtain ⟨a1, b1, hsp⟩ := hk.sp _ hroot
  have hg' : (T.c.gates.map enG)[i]? = some (enG g) := by rw [List.getElem?_map, hg]; rfl
  have hpl : ∀ p ∈ g.2, p < totN T.c := fun p hp => by
    have := g3 p hp
    unfold totN
    omega
  refine se_seq (se_asg (ee_op (ee_op (ee_f (ns := nsT) (j := 0) (by decide) (ee_raw rfl ⟨T.a, CT, _, _, rfl, ht.h0, kt.cls, kt.circuit, rfl, (fun i z => nomatch z), ee_lit (n_ixT rfl rfl (ee_op (ee_dat rfl (ee_first_gate (ea_cons (ee_f (ns := nsT) (j := 0) (by decide) (ee_raw rfl ⟨T.a, CT, _, _, rfl, ht.h0, kt.cls, kt.circuit, rfl, (fun i z => nomatch z), ea_nil ⟨T.c, rfl, n_sub rfl rfl (Nat.le_add_right _ _) ?_⟩⟩)))))))⟩)))))
  rw [Nat.add_sub_cancel_left]
  refine n_ixL rfl hg' ⟨_, _, rfl, gs_tup2, ?_⟩
  refine se_seq (se_if (et_val (ee_is_gate_left (ee_f (ns := nsT) (j := 1) (by decide) (ee_raw rfl ⟨T.a, CT, _, _, rfl, ht.h0, kt.cls, kt.senses, rfl, (fun i z => nomatch z), T.s, T.t, T.l, T.n, sensN T.c, rfl, ht.hs, ea_cons (ee_dat rfl (ea_cons (ee_new (en_mapX g.2 nI (fun p => enS ((sensN T.c).say p)) (es_tup (ee_dat rfl ⟨_, rfl, rfl, rfl, ?_, ?_, ?_⟩))))))⟩)))))
  · exact Nat.lt_of_le_of_lt g1 (by decide)
  · intro p hp
    exact ⟨_, gs_name, rfl, ee_op (ee_told ks (ee_f (ns := nsT) (j := 1) (by decide) (ee_raw rfl ⟨T.a, CT, _, _, rfl, ht.h0, kt.cls, kt.senses, rfl, (fun i z => nomatch z), T.s, T.t, T.l, T.n, sensN T.c, rfl, ht.hs, ee_dat rfl (o2_ixH ht.hs.h1 rfl (told_get (told_root hc (hpl p hp)).1) ⟨rfl, rfl, rfl⟩)⟩)))⟩
  refine ea_nil ⟨rfl, ⟨T.s, T.t, T.l, T.n, sensN T.c, g.1, g.2.map (sensN T.c).say⟩, rfl, rfl, ?_, ⟨?_, fun v hv => ?_⟩, _, rfl, fun hb => ?_, fun hb => ?_⟩
  · dsimp only
    rw [List.map_map]
    rfl
  · show (g.2.map (sensN T.c).say).length ≤ 10
    rw [List.length_map]
    omega
  · obtain ⟨p, hp, e⟩ := List.mem_map.mp (show Sn.bit v ∈ g.2.map (sensN T.c).say from hv)
    have := hzi.ok.bits v (by rw [← e]; exact say_mem (told_root hc (hpl p hp)).1)
    omega
  · refine se_retD (ee_nget (ee_f (ns := nsT) (j := 5) (by decide) (ee_raw rfl ⟨T.a, CT, _, _, rfl, ht.h0, kt.cls, kt.spots, rfl, (fun i z => nomatch z), ee_op (ee_told ks (ee_f (ns := nsT) (j := 1) (by decide) (ee_raw rfl ⟨T.a, CT, _, _, rfl, ht.h0, kt.cls, kt.senses, rfl, (fun i z => nomatch z), T.s, T.t, T.l, T.n, sensN T.c, rfl, ht.hs, ee_dat rfl (o2_ixH ht.hs.h1 rfl (told_get hlt) ⟨T.spots, kS ((sensN T.c).say (T.c.first + i)), _, ht.hp, congrArg Rs.dat (enS_k _), kS_depth _, hsp, _, rfl, ⟨_, rfl⟩, _, rfl, .inr ⟨a1, b1, rfl⟩⟩)⟩)))⟩)))
  · refine se_next ?_
    exact se_retD (ee_non ⟨_, rfl, ⟨_, rfl⟩, _, rfl, .inl rfl⟩)

structure I_ties where
  T : Tdy
  ps : List Nat
  pd : PyData
  sh : PyData
abbrev sp_Tidying_ties (P : Program) (w : World) (CT CS : Addr) : Sp := spR (fun i : I_ties => [.raw (.ref i.T.a), .dat i.pd, .dat i.sh]) (fun i S H => AtT P w CT CS i.T S H ∧ TOk i.T ∧ (∀ p ∈ i.ps, p < totN i.T.c) ∧ i.ps.length ≤ 10 ∧ IsSeqD (i.ps.map nI) i.pd ∧ SpotP i.sh) (fun i d => TieP 100 d)
theorem ee_tie {Ω : Wd} {δ : List AS} {R : KR} {te : TE} {ta : TA} {E : XK} {CT CS : Addr} (h : EE P w te Ω δ fun r Ω1 δ1 => ∃ T, r = .raw (.ref T.a) ∧ HasT P w CT CS T Ω1 ∧ TOk T ∧ EA P w ta Ω1 δ1 fun rs Ω2 δ2 => Ω2 = Ω1 ∧ ∃ p : Nat, rs = [.dat (nI p)] ∧ p < totN T.c ∧ ∀ d, TieP 2 d → R (.dat d) Ω2 δ2) : EE P w (tMeth CT "tie" (sp_Tidying_tie P w CT CS) [] E te ta) Ω δ R :=
  ee_methR (h.imp fun r Ω1 δ1 ⟨T, e, hs, hk, k⟩ => ⟨T.a, e, mth_of hs.h0 (by decide), EA.imp k fun rs Ω2 δ2 ⟨e2, p, hrs, hp, z⟩ => ⟨⟨T, p⟩, by rw [hrs], by simp, fun S H e3 hw => ⟨hs.now S H e3 (by rw [← e2]; exact hw), hk, hp⟩, fun d' hd => z d' hd⟩⟩)
theorem ee_hung_spot {Ω : Wd} {δ : List AS} {R : KR} {te : TE} {ta : TA} {E : XK} {CT CS : Addr} (h : EE P w te Ω δ fun r Ω1 δ1 => ∃ T, r = .raw (.ref T.a) ∧ HasT P w CT CS T Ω1 ∧ TOk T ∧ EA P w ta Ω1 δ1 fun rs Ω2 δ2 => Ω2 = Ω1 ∧ ∃ p : Nat, rs = [.dat (nI p)] ∧ p < totN T.c ∧ ∀ d, HsP T p d → R (.dat d) Ω2 δ2) : EE P w (tMeth CT "hung_spot" (sp_Tidying_hung_spot P w CT CS) [] E te ta) Ω δ R :=
  ee_methR (h.imp fun r Ω1 δ1 ⟨T, e, hs, hk, k⟩ => ⟨T.a, e, mth_of hs.h0 (by decide), EA.imp k fun rs Ω2 δ2 ⟨e2, p, hrs, hp, z⟩ => ⟨⟨T, p⟩, by rw [hrs], by simp, fun S H e3 hw => ⟨hs.now S H e3 (by rw [← e2]; exact hw), hk, hp⟩, fun d' hd => z d' hd⟩⟩)
theorem ee_reckoned {Ω : Wd} {δ : List AS} {R : KR} {te : TE} {ta : TA} {E : XK} {CT CS : Addr} (h : EE P w te Ω δ fun r Ω1 δ1 => ∃ T, r = .raw (.ref T.a) ∧ HasT P w CT CS T Ω1 ∧ TOk T ∧ EA P w ta Ω1 δ1 fun rs Ω2 δ2 => Ω2 = Ω1 ∧ ∃ i g, rs = [.dat (nI (T.c.first + i))] ∧ T.c.gates[i]? = some g ∧ ∀ d, SpotP d → R (.dat d) Ω2 δ2) : EE P w (tMeth CT "reckoned" (sp_Tidying_reckoned P w CT CS) [] E te ta) Ω δ R :=
  ee_methR (h.imp fun r Ω1 δ1 ⟨T, e, hs, hk, k⟩ => ⟨T.a, e, mth_of hs.h0 (by decide), EA.imp k fun rs Ω2 δ2 ⟨e2, i, g, hrs, hp, z⟩ => ⟨⟨T, i, g⟩, by rw [hrs], by simp, fun S H e3 hw => ⟨hs.now S H e3 (by rw [← e2]; exact hw), hk, hp⟩, fun d' hd => z d' hd⟩⟩)
theorem th_sh {d : PyData} (h : IsTh d) : ShK 1 d := by
  obtain ⟨x, n, rfl, hx⟩ := h
  exact shK_pair hx (shK_int _ _)
theorem sh_th {d : PyData} (h : IsTh d) : SeqAt.shaped d = true := (th_sh h).shaped (by decide)
theorem sh_ths {ds : List PyData} (h : ∀ d ∈ ds, IsTh d) : SeqAt.shaped (.list ds) = true := (shK_lst fun d hd => th_sh (h d hd)).shaped (by decide)
theorem app_th {ds es : List PyData} (h : ∀ d ∈ ds, IsTh d) (k : ∀ d ∈ es, IsTh d) : ∀ d ∈ ds ++ es, IsTh d := fun d hd => by
  rcases List.mem_append.mp hd with hd | hd
  · exact h d hd
  · exact k d hd
theorem spot_th {d : PyData} (h : ∃ a b : Nat, d = .tuple [nI a, nI b]) : IsTh d := by
  obtain ⟨a, b, rfl⟩ := h
  exact th_pair a b
theorem eqv_none_tup (ds : List PyData) : PyData.eqv .none (.tuple ds) = false := by
  rw [PyData.eqv]

abbrev N_Tidying_ties : List Str := ["self", "places", "shown", "free", "given", "place", "more", "known", "thing"]
theorem sc_Tidying_ties : FnScope N_Tidying_ties ["self", "places", "shown"] (defScope s_Tidying_ties) := ⟨rfl, rfl, rfl, by decide +kernel, rfl, by decide +kernel, by decide +kernel⟩
theorem ok_Tidying_ties {k : Nat} {f : Addr} {fd : FuncData} (F : FnP K "ties" "Tidying.ties" s_Tidying_ties f fd) (T : Fx mg) {CT CS : Addr} (kt : KT K CT) (ks : KS K CS) (c_Tidying_hung_spot : CalM P w K mg base k CT "hung_spot" ["self", "place"] (sp_Tidying_hung_spot P w CT CS)) (c_Tidying_tie : CalM P w K mg base k CT "tie" ["self", "place"] (sp_Tidying_tie P w CT CS)) : FnOk P w K mg base CX0 (k + 1) f fd ["self", "places", "shown"] (sp_Tidying_ties P w CT CS) := by
  refine F.ok sc_Tidying_ties (spR_len fun _ => rfl) (fun cdv A outer s H vs Q E hr hsp => ?_)
  refine ⟨_, PSs.nox (pss_cons (ps_set (i := 3) sc_Tidying_ties.nd rfl (Or.inr rfl) (pe_lst pa_nil))
    (pss_cons (ps_set (i := 4) sc_Tidying_ties.nd rfl (Or.inr rfl) (pe_lst pa_nil))
    (pss_cons (ps_for PassesOwn.never rfl (pi_seq (pv 1)) (pg_name (i := 5) sc_Tidying_ties.nd rfl (Or.inl rfl))
    (pss_cons (ps_asg (pe_mcal (pv 0) c_Tidying_tie hr (pa_cons (pv 5) pa_nil)) (pg_tup rfl (pgs_cons (pg_name (i := 6) sc_Tidying_ties.nd rfl (Or.inl rfl)) (pgs_cons (pg_name (i := 7) sc_Tidying_ties.nd rfl (Or.inl rfl)) pgs_nil))))
    (pss_cons (ps_if (PW.pt (pw_and (pt_cmp (pc_notN (pv 2))) (pw_and1 (pt_cmpR (op_eqD hr.units) (pe_mcal (pv 0) c_Tidying_hung_spot hr (pa_cons (pv 5) pa_nil)) (pv 2) (nomark _)))))
    (pss_one (ps_par (by rfl) sc_Tidying_ties.nd (i := 6) (j := 7) rfl rfl (by decide) rfl rfl (pa_cons (pe_lst (pa_cons (pe_tup (pa_cons pe_int (pa_cons (pv 5) pa_nil))) pa_nil)) (pa_cons (pe_lst (pa_cons (pe_dget (hu_of hr) (pe_fld (pv 0) rfl) (pv 5) (fun _ _ => rfl)) pa_nil)) pa_nil)) (by rfl)))
    pss_nil)
    (pss_cons (ps_expr (pe_bm PySem.F.plainAttrs_list PySem.F.slot_list_extend PySem.F.type_list_extend mt_extend (pv 3) (pa_cons (pe_lc (own := [("thing", 8)]) (g := gName 8) (by rfl) sc_Tidying_ties.nd (pi_list (pv 6)) (blkOk_by (own := [("thing", 8)]) (N := N_Tidying_ties) (sc := defScope s_Tidying_ties) (by decide +kernel)) (fun _ _ _ _ _ => pg_name (i := 8) sc_Tidying_ties.nd rfl (Or.inl rfl)) (fun _ _ _ _ _ => pts_one (pt_cmpR (opK_notInD (K := K) (by rfl) (room65 hr)) (pv 8) (pv 3) (by rfl))) (fun _ _ _ _ _ => pv 8)) pa_nil)))
    (pss_one (ps_expr (pe_bm PySem.F.plainAttrs_list PySem.F.slot_list_extend PySem.F.type_list_extend mt_extend (pv 4) (pa_cons (pe_lc (own := [("thing", 8)]) (g := gName 8) (by rfl) sc_Tidying_ties.nd (pi_list (pv 7)) (blkOk_by (own := [("thing", 8)]) (N := N_Tidying_ties) (sc := defScope s_Tidying_ties) (by decide +kernel)) (fun _ _ _ _ _ => pg_name (i := 8) sc_Tidying_ties.nd rfl (Or.inl rfl)) (fun _ _ _ _ _ => pts_one (pt_cmpR (opK_notInD (K := K) (by rfl) (room65 hr)) (pv 8) (pv 4) (by rfl))) (fun _ _ _ _ _ => pv 8)) pa_nil))))))))
    (pss_one (ps_ret (pe_tup (pa_cons (pv 3) (pa_cons (pv 4) pa_nil)))))))), ?_⟩
  refine run_spR (P := P) (w := w) hsp ?_
  rintro ⟨T, ps, pd, sh⟩ S H ⟨hz, hk, hps, hpl, hpd, hsh⟩
  dsimp only at hz hk hps hpl hpd hsh ⊢
  have ht := hz.old (cs := [])
  refine se_seq (se_setN (en_lst (ea_nil ⟨[], rfl, by decide, (by show (3 : Nat) < 9; decide), ?_⟩)))
  refine se_seq (se_setN (en_lst (ea_nil ⟨[], rfl, by decide, (by show (4 : Nat) < 9; decide), ?_⟩)))
  refine se_seq (se_forX ps nI (fun r Ω' δ' => Ω' = Wd.sym S H [] [] ∧ ∃ fs gs x1 x2 x3, fs.length ≤ 4 * (ps.length - r.length) ∧ gs.length ≤ 4 * (ps.length - r.length) ∧ (∀ d ∈ fs, IsTh d) ∧ (∀ d ∈ gs, IsTh d) ∧ δ' = [.raw (.ref T.a), .dat pd, .dat sh, .own fs, .own gs, x1, x2, x3, .un]) (es_seq (ee_dat rfl ⟨pd, _, rfl, hpd, rfl, ⟨rfl, [], [], .un, .un, .un, Nat.zero_le _, Nat.zero_le _, fun _ z => (nomatch z), fun _ z => (nomatch z), rfl⟩, ?_, ?_⟩)))
  · rintro pre p r Ω' δ' hx ⟨rfl, fs, gs, x1, x2, x3, hf1, hg1, hf, hg, rfl⟩
    have hp : p < totN T.c := hps p (by rw [hx]; simp)
    have hlen : ps.length = pre.length + (r.length + 1) := by rw [hx, List.length_append, List.length_cons]
    rw [List.length_cons] at hf1 hg1
    refine ⟨_, gs_name, ?_⟩
    refine se_seq (se_asg (ee_tie (ee_raw rfl ⟨T, rfl, ht, hk, ea_cons (ee_dat rfl (ea_nil ⟨rfl, p, rfl, hp, fun d hd => ?_⟩))⟩)))
    obtain ⟨ms, ns, rfl, m1, m2, m3, m4⟩ := hd
    refine ⟨_, _, rfl, gs_tup2, ?_⟩
    refine se_seq (SE.imp (p := ⟨fun Ω' δ' => Ω' = Wd.sym S H [] [] ∧ ∃ ms ns, ms.length ≤ 2 ∧ ns.length ≤ 2 ∧ (∀ d ∈ ms, IsTh d) ∧ (∀ d ∈ ns, IsTh d) ∧ δ' = [.raw (.ref T.a), .dat pd, .dat sh, .own fs, .own gs, .dat (nI p), .dat (.list ms), .dat (.list ns), .un], fun _ _ => False, fun _ _ => False, fun _ _ => False⟩) ?_ ?_ (fun _ _ z => z.elim) (fun _ _ z => z.elim) (fun _ _ z => z.elim))
    · refine se_if (et_and (et_B (ee_notN (ee_dat rfl ⟨sh, rfl, _, rfl, fun hb => ?_, fun hb => ?_⟩))))
      · obtain ⟨a1, b1, rfl⟩ : ∃ a b : Nat, sh = .tuple [nI a, nI b] := by
          rcases hsh with rfl | h
          · cases hb
          · exact h
        refine et_test (ee_op (ee_hung_spot (ee_raw rfl ⟨T, rfl, ht, hk, ea_cons (ee_dat rfl (ea_nil ⟨rfl, p, rfl, hp, fun d hd => ee_dat rfl ?_⟩))⟩)))
        have hdsh : SeqAt.shaped d = true := by
          rcases hd with rfl | ⟨h, _⟩
          · exact (shK_none 0).shaped (by decide)
          · exact sh_th (spot_th h)
        refine o2_eqD hdsh (sh_th (th_pair a1 b1)) ⟨_, rfl, fun hb2 => ?_, fun _ => se_next ⟨rfl, ms, ns, m1, m2, m3, m4, rfl⟩⟩
        obtain ⟨x, hx2⟩ : ∃ x, dkGet T.lines (p : Int) = some x := by
          rcases hd with rfl | ⟨_, h⟩
          · rw [eqv_none_tup] at hb2
            cases hb2
          · exact h
        refine se_par (ea_cons (ee_new (en_lst (ea_cons (ee_tup (ea_cons (ee_lit (ea_cons (ee_dat rfl (ea_nil ⟨[_, _], rfl, (by show 2 ≤ sizeLine; decide), ea_nil ⟨[_], rfl, (by show 1 ≤ sizeLine; decide), ea_cons (ee_new (en_lst (ea_cons (ee_dget (ee_f (ns := nsT) (j := 6) (by decide) (ee_raw rfl ⟨T.a, CT, _, _, rfl, ht.h0, kt.cls, kt.lines, rfl, (fun i z => nomatch z), T.ln, rfl, ee_dat rfl ⟨(p : Int), T.lines, x, rfl, ht.hl, hx2, ea_nil ⟨[_], rfl, (by show 1 ≤ sizeLine; decide), ea_nil ⟨_, _, rfl, rfl, [.tuple [nI 0, nI p]], [x], by simp, by simp, one_all (th_pair 0 p), one_all (hk.ln p x hx2), rfl⟩⟩⟩⟩))))))⟩⟩))))))))))
      · exact ⟨fun z => (nomatch z), fun _ => se_next ⟨rfl, ms, ns, m1, m2, m3, m4, rfl⟩⟩
    rintro Ω' δ' ⟨rfl, ms, ns, m1, m2, m3, m4, rfl⟩
    refine se_seq (se_extend (i := 3) rfl (ee_new (en_lcX ms id (fun _ Ω' acc => Ω' = Wd.sym S H [] [] ∧ ∀ d ∈ acc, IsTh d) (es_list (ee_dat rfl ⟨_, rfl, (List.map_id _).symm, rfl, Nat.lt_of_le_of_lt m1 (by decide), ⟨rfl, fun _ z => (nomatch z)⟩, ?_, ?_⟩)))))
    · rintro _ x r Ω' acc hx - ⟨rfl, hacc⟩
      have hxm : IsTh x := m3 x (by rw [hx]; simp)
      refine ⟨_, gs_name, rfl, et_test (ee_op (ee_dat rfl (ee_own rfl (o2_notInO (ds := fs) rfl (sh_th hxm) (sh_ths hf) ⟨_, rfl, rfl, fun _ => ee_dat rfl ⟨rfl, _, rfl, rfl, app_th hacc (one_all hxm)⟩, fun _ => ⟨rfl, hacc⟩⟩))))⟩
    rintro Ω' acc hal ⟨rfl, hacc⟩
    refine ⟨acc, fs, rfl, rfl, Nat.le_trans (show fs.length + acc.length ≤ 100 by omega) (by decide), ?_⟩
    have hf2 := app_th hf hacc
    have hf3 : (fs ++ acc).length ≤ 4 * (ps.length - r.length) := by rw [List.length_append]; omega
    generalize fs ++ acc = fs2 at hf2 hf3
    refine se_extend (i := 4) rfl (ee_new (en_lcX ns id (fun _ Ω' acc => Ω' = Wd.sym S H [] [] ∧ ∀ d ∈ acc, IsTh d) (es_list (ee_dat rfl ⟨_, rfl, (List.map_id _).symm, rfl, Nat.lt_of_le_of_lt m2 (by decide), ⟨rfl, fun _ z => (nomatch z)⟩, ?_, ?_⟩))))
    · rintro _ x r Ω' acc hx - ⟨rfl, hacc⟩
      have hxm : IsTh x := m4 x (by rw [hx]; simp)
      refine ⟨_, gs_name, rfl, et_test (ee_op (ee_dat rfl (ee_own rfl (o2_notInO (ds := gs) rfl (sh_th hxm) (sh_ths hg) ⟨_, rfl, rfl, fun _ => ee_dat rfl ⟨rfl, _, rfl, rfl, app_th hacc (one_all hxm)⟩, fun _ => ⟨rfl, hacc⟩⟩))))⟩
    rintro Ω' acc2 hal2 ⟨rfl, hacc2⟩
    refine ⟨acc2, gs, rfl, rfl, Nat.le_trans (show gs.length + acc2.length ≤ 100 by omega) (by decide), rfl, fs2, gs ++ acc2, .dat (nI p), .dat (.list ms), .dat (.list ns), hf3, ?_, hf2, app_th hg hacc2, rfl⟩
    rw [List.length_append]
    omega
  · rintro Ω' δ' ⟨rfl, fs, gs, x1, x2, x3, hf1, hg1, hf, hg, rfl⟩
    simp only [List.length_nil, Nat.sub_zero] at hf1 hg1
    refine se_freeze (i := 3) rfl (se_freeze (i := 4) rfl (se_retD (ee_tup (ea_cons (ee_dat rfl (ea_cons (ee_dat rfl (ea_nil ⟨[_, _], rfl, (by show 2 ≤ sizeLine; decide), _, rfl, ⟨_, rfl⟩, _, rfl, fs, gs, rfl, by omega, by omega, hf, hg⟩))))))))

end
end G
set_option autoImplicit false
/-! What is made: the fresh places. -/
namespace M
section
variable {β : Type}
theorem lookL_putL (l : List (Sn × β)) (s t : Sn) (x : β) : lookL (putL l s x) t = if t = s then some x else lookL l t := by
  unfold putL
  by_cases h : (l.any fun e => decide (e.1 = s)) = true
  · rw [if_pos h]
    induction l with
    | nil => simp at h
    | cons e r ih =>
      by_cases he : e.1 = s
      · by_cases hk : t = s
        · subst hk
          rw [if_pos rfl]
          simp [lookL, he]
        · rw [if_neg hk]
          have h1 : ¬ e.1 = t := fun z => hk (z.symm.trans he)
          by_cases hr : (r.any fun e => decide (e.1 = s)) = true
          · have := ih hr
            rw [if_neg hk] at this
            simp only [lookL, List.map_cons, if_pos he, List.find?_cons, decide_eq_false h1] at this ⊢
            exact this
          · have e2 : r.map (fun e => if e.1 = s then (e.1, x) else e) = r := by
              refine (List.map_congr_left (g := id) fun y hy => ?_).trans (List.map_id r)
              rw [if_neg fun z => hr (List.any_eq_true.mpr ⟨y, hy, by simpa using z⟩)]
              rfl
            rw [List.map_cons, e2, if_pos he]
            simp only [lookL, List.find?_cons, decide_eq_false h1]
      · have hr : (r.any fun e => decide (e.1 = s)) = true := by
          rw [List.any_cons, decide_eq_false he, Bool.false_or] at h
          exact h
        have := ih hr
        rw [List.map_cons, if_neg he]
        by_cases h1 : e.1 = t
        · have hk : ¬ t = s := fun z => he (h1.trans z)
          rw [if_neg hk]
          simp [lookL, h1]
        · simp only [lookL, List.find?_cons, decide_eq_false h1] at this ⊢
          exact this
  · rw [if_neg h]
    have hn : ∀ e ∈ l, ¬ e.1 = s := fun e he z => h (List.any_eq_true.mpr ⟨e, he, by simpa using z⟩)
    unfold lookL
    rw [List.find?_append]
    by_cases hk : t = s
    · subst hk
      rw [if_pos rfl, List.find?_eq_none.mpr fun e he => by simpa using hn e he]
      simp
    · rw [if_neg hk]
      have h1 : ¬ s = t := fun z => hk z.symm
      cases l.find? fun e => decide (e.1 = t) with
      | none => simp [h1]
      | some e => rfl
theorem putL_len (l : List (Sn × β)) (s : Sn) (x : β) : (putL l s x).length ≤ l.length + 1 := by
  unfold putL
  split
  · rw [List.length_map]; omega
  · rw [List.length_append]; exact Nat.le_refl _
theorem putL_some {l : List (Sn × β)} {s t : Sn} {x : β} (h : (lookL l t).isSome = true) : (lookL (putL l s x) t).isSome = true := by
  rw [lookL_putL]
  split
  · rfl
  · exact h
theorem putL_self (l : List (Sn × β)) (s : Sn) (x : β) : (lookL (putL l s x) s).isSome = true := by
  rw [lookL_putL, if_pos rfl]
  rfl
end
/-- what is fresh so far: pre the left gates seen -/
structure FrOk (c : Circ) (pre : List (Nat × Gate)) (m : Mk) : Prop where
  low : ∀ p, p < c.ins ∨ p ∈ keptN c → (lookL m.fr (.pl p)).isSome = true
  bit : ∀ b, b < 2 → .bit b ∈ needN c → (lookL m.fr (.bit b)).isSome = true
  left : ∀ e ∈ pre, .pl e.1 ∈ needN c → (lookL m.fr (.pl e.1)).isSome = true
  fl : m.fr.length ≤ c.first + 2 + pre.length
  gl : m.gates.length ≤ 2 + pre.length
theorem fold0 : ∀ (ps : List Nat) (l : List (Sn × Nat)), (∀ p, p ∈ ps ∨ (lookL l (.pl p)).isSome = true → (lookL (ps.foldl (fun l p => putL l (.pl p) l.length) l) (.pl p)).isSome = true) ∧ (ps.foldl (fun l p => putL l (.pl p) l.length) l).length ≤ l.length + ps.length
  | [], l => ⟨fun p h => h.elim (fun z => nomatch z) id, Nat.le_refl _⟩
  | q :: ps, l => by
    obtain ⟨h1, h2⟩ := fold0 ps (putL l (.pl q) l.length)
    have h3 := putL_len l (.pl q) l.length
    refine ⟨fun p h => h1 p ?_, by rw [List.foldl_cons, List.length_cons]; omega⟩
    rcases h with h | h
    · rcases List.mem_cons.mp h with rfl | h
      · exact .inr (putL_self _ _ _)
      · exact .inl h
    · exact .inr (putL_some h)
theorem own_len (c : Circ) : (ownN c).length ≤ c.mems.length := by
  unfold ownN
  have := List.length_filter_le (fun p => decide ((sensN c).say p = .pl p)) ((List.range c.mems.length).map fun i => c.ins + i)
  rw [List.length_map, List.length_range] at this
  exact this
theorem kept_len (c : Circ) : (keptN c).length ≤ c.mems.length := Nat.le_trans (List.length_filter_le _ _) (own_len c)
theorem fr0 (c : Circ) : (∀ p, p < c.ins ∨ p ∈ keptN c → (lookL (mk0 c).fr (.pl p)).isSome = true) ∧ (mk0 c).fr.length ≤ c.first := by
  obtain ⟨h1, h2⟩ := fold0 (List.range c.ins ++ keptN c) []
  refine ⟨fun p hp => h1 p (.inl ?_), ?_⟩
  · rcases hp with hp | hp
    · exact List.mem_append_left _ (List.mem_range.mpr hp)
    · exact List.mem_append_right _ hp
  · have := kept_len c
    rw [List.length_append, List.length_range] at h2
    have h3 : c.first = c.ins + c.mems.length := rfl
    show ((List.range c.ins ++ keptN c).foldl _ []).length ≤ _
    simp at h2 ⊢
    omega
theorem bit_mono {c : Circ} {m : Mk} {b : Nat} {t : Sn} (h : (lookL m.fr t).isSome = true) : (lookL (mkBit c m b).fr t).isSome = true := by
  unfold mkBit
  split
  · exact putL_some h
  · exact h
theorem bit_self {c : Circ} {m : Mk} {b : Nat} (h : .bit b ∈ needN c) : (lookL (mkBit c m b).fr (.bit b)).isSome = true := by
  unfold mkBit
  rw [if_pos h]
  exact putL_self _ _ _
theorem bit_len (c : Circ) (m : Mk) (b : Nat) : (mkBit c m b).fr.length ≤ m.fr.length + 1 ∧ (mkBit c m b).gates.length ≤ m.gates.length + 1 := by
  unfold mkBit
  split
  · exact ⟨putL_len _ _ _, by rw [List.length_append]; exact Nat.le_refl _⟩
  · exact ⟨Nat.le_succ _, Nat.le_succ _⟩
def mk2 (c : Circ) : Mk := mkBit c (mkBit c (mk0 c) 0) 1
theorem fr2 (c : Circ) : FrOk c [] (mk2 c) := by
  obtain ⟨h1, h2⟩ := fr0 c
  have a := bit_len c (mk0 c) 0
  have b := bit_len c (mkBit c (mk0 c) 0) 1
  refine ⟨fun p hp => bit_mono (bit_mono (h1 p hp)), fun v hv hn => ?_, (fun e he => nomatch he), ?_, ?_⟩
  · obtain rfl | rfl : v = 0 ∨ v = 1 := by omega
    · exact bit_mono (bit_self hn)
    · exact bit_self hn
  · have : (mk2 c).fr.length ≤ (mkBit c (mk0 c) 0).fr.length + 1 := b.1
    simp only [List.length_nil]
    omega
  · have : (mk2 c).gates.length ≤ (mkBit c (mk0 c) 0).gates.length + 1 := b.2
    have h0 : (mk0 c).gates.length = 0 := rfl
    simp only [List.length_nil]
    omega
theorem left_mono {c : Circ} {m : Mk} {e : Nat × Gate} {t : Sn} (h : (lookL m.fr t).isSome = true) : (lookL (mkLeft c m e).fr t).isSome = true := by
  unfold mkLeft
  split
  · exact putL_some h
  · exact h
theorem fr_step {c : Circ} {pre : List (Nat × Gate)} {m : Mk} (h : FrOk c pre m) (e : Nat × Gate) : FrOk c (pre ++ [e]) (mkLeft c m e) := by
  refine ⟨fun p hp => left_mono (h.low p hp), fun b hb hn => left_mono (h.bit b hb hn), fun x hx hn => ?_, ?_, ?_⟩
  · rcases List.mem_append.mp hx with hx | hx
    · exact left_mono (h.left x hx hn)
    · rw [List.mem_singleton.mp hx] at hn ⊢
      unfold mkLeft
      rw [if_pos hn]
      exact putL_self _ _ _
  · have : (mkLeft c m e).fr.length ≤ m.fr.length + 1 := by
      unfold mkLeft
      split
      · exact putL_len _ _ _
      · exact Nat.le_succ _
    have := h.fl
    rw [List.length_append, List.length_singleton]
    omega
  · have : (mkLeft c m e).gates.length ≤ m.gates.length + 1 := by
      unfold mkLeft
      split
      · rw [List.length_append]; exact Nat.le_refl _
      · exact Nat.le_succ _
    have := h.gl
    rw [List.length_append, List.length_singleton]
    omega
theorem fr_fold {c : Circ} : ∀ (r pre : List (Nat × Gate)) (m : Mk), FrOk c pre m → FrOk c (pre ++ r) (r.foldl (mkLeft c) m)
  | [], pre, m, h => by rw [List.append_nil]; exact h
  | e :: r, pre, m, h => by
    have := fr_fold r (pre ++ [e]) (mkLeft c m e) (fr_step h e)
    rw [List.append_assoc] at this
    exact this
theorem fr_all (c : Circ) : FrOk c (sensN c).left (mkN c) := by
  have := fr_fold (sensN c).left [] (mk2 c) (fr2 c)
  exact this
theorem kept_mem {c : Circ} {p : Nat} : p ∈ keptN c ↔ (c.ins ≤ p ∧ p < c.first ∧ (sensN c).say p = .pl p ∧ .pl p ∈ needN c) := by
  unfold keptN ownN
  simp only [List.mem_filter, List.mem_map, List.mem_range, decide_eq_true_eq]
  have hf : c.first = c.ins + c.mems.length := rfl
  constructor
  · rintro ⟨⟨⟨i, hi, rfl⟩, h2⟩, h3⟩
    exact ⟨by omega, by omega, h2, h3⟩
  · rintro ⟨h1, h2, h3, h4⟩
    exact ⟨⟨⟨p - c.ins, by omega, by omega⟩, h3⟩, h4⟩
/-- a root that is needed is fresh, once what stands before it is -/
theorem fr_has {c : Circ} {pre : List (Nat × Gate)} {m : Mk} (h : FrOk c pre m) {s : Sn} (hn : s ∈ needN c) (hr : RootS c (sensN c) s) (hp : ∀ q g, s = .pl q → (q, g) ∈ (sensN c).left → (q, g) ∈ pre) : (lookL m.fr s).isSome = true := by
  cases s with
  | bit b => exact h.bit b hr hn
  | pl q =>
    have hr : RootP c (sensN c) q := hr
    by_cases h1 : q < c.ins
    · exact h.low q (.inl h1)
    · by_cases h2 : q < c.first
      · exact h.low q (.inr (kept_mem.mpr ⟨by omega, h2, hr.say, hn⟩))
      · obtain ⟨g, hg⟩ := hr.left (by omega)
        exact h.left (q, g) (hp q g rfl (get_mem hg)) hn
theorem need_places {c : Circ} (hc : COk c) {q : Nat} {g : Gate} (he : (q, g) ∈ (sensN c).left) (hn : .pl q ∈ needN c) : ∀ o ∈ g.2, .pl o ∈ needN c ∧ RootP c (sensN c) o ∧ o < q := fun o ho => by
  have hz := sens_inv hc
  have lo := hz.left _ he
  refine ⟨(need_ok hc).ask _ hn _ ?_, (lo.root o ho).1, (lo.root o ho).2⟩
  have h1 : ¬ q < c.ins := by
    have := lo.ge
    have hf : c.first = c.ins + c.mems.length := rfl
    simp only at this
    omega
  have h2 : ¬ q < c.first := by
    have := lo.ge
    simp only at this
    omega
  unfold askedN
  simp only [if_neg h1, if_neg h2, get_of hz.asc he]
  exact List.mem_map.mpr ⟨o, ho, rfl⟩
theorem need_next {c : Circ} (hc : COk c) {p : Nat} (hk : p ∈ keptN c) : (sensN c).say (c.mems.getD (p - c.ins) (0, 0)).2 ∈ needN c := by
  obtain ⟨h1, h2, h3, h4⟩ := kept_mem.mp hk
  refine (need_ok hc).ask _ h4 _ ?_
  unfold askedN
  simp only [if_neg (Nat.not_lt.mpr h1), if_pos h2]
  simp
theorem fr_need {c : Circ} (hc : COk c) {s : Sn} (hn : s ∈ needN c) : (lookL (mkN c).fr s).isSome = true := fr_has (fr_all c) hn ((need_ok hc).root s hn) fun _ _ _ h => h
/-- the places of a left gate that is needed are fresh when its turn comes -/
theorem fr_before {c : Circ} (hc : COk c) {pre r : List (Nat × Gate)} {e : Nat × Gate} (hl : (sensN c).left = pre ++ e :: r) {m : Mk} (h : FrOk c pre m) (hn : .pl e.1 ∈ needN c) : ∀ o ∈ e.2.2, (lookL m.fr (.pl o)).isSome = true := fun o ho => by
  have hz := sens_inv hc
  have hm : (e.1, e.2) ∈ (sensN c).left := by rw [hl]; simp
  obtain ⟨h1, h2, h3⟩ := need_places hc hm hn o ho
  refine fr_has h h1 h2 fun q g hq hg => ?_
  injection hq with hq
  subst hq
  have asc := hz.asc
  rw [hl] at hg asc
  rcases List.mem_append.mp hg with hg | hg
  · exact hg
  · exfalso
    rw [List.pairwise_append] at asc
    rcases List.mem_cons.mp hg with e2 | hg
    · rw [← e2] at h3
      exact Nat.lt_irrefl _ h3
    · have := List.rel_of_pairwise_cons asc.2.1 hg
      have : e.1 < o := this
      omega
end M
set_option Elab.async false
set_option linter.all false
set_option maxRecDepth 100000
set_option maxHeartbeats 4000000
set_option autoImplicit false
namespace G
open PySem PySem.Spec PyProof.Rows L2 D M
local macro_rules | `(tactic| walk_at "d1") => `(tactic| first
  | (with_reducible refine se_seq ?_)
  | (with_reducible refine se_next ?_)
  | (with_reducible refine se_set ?_)
  | (with_reducible refine se_retD ?_)
  | (with_reducible refine se_if ?_)
  | (with_reducible refine ee_lit ?_)
  | (with_reducible refine ee_int ?_)
  | (with_reducible refine ee_str ?_)
  | (with_reducible refine ee_bl ?_)
  | (with_reducible refine ee_non ?_)
  | (with_reducible refine ee_op ?_)
  | (with_reducible refine ee_tup ?_)
  | (with_reducible refine ee_cb ?_)
  | (with_reducible refine et_test ?_)
  | (with_reducible refine ea_nil ?_)
  | (with_reducible refine ea_cons ?_)
  | ((with_reducible refine' ee_dat ?e ?_); (case e => rfl))
  | ((with_reducible refine' ee_own ?e ?_); (case e => rfl))
  | ((with_reducible refine' ee_raw ?e ?_); (case e => rfl))
  | ((with_reducible refine' n_and ?ha ?hb ?_); (case ha => rfl); (case hb => rfl))
  | ((with_reducible refine' n_or ?ha ?hb ?_); (case ha => rfl); (case hb => rfl))
  | ((with_reducible refine' n_xor ?ha ?hb ?_); (case ha => rfl); (case hb => rfl))
  | ((with_reducible refine' n_add ?ha ?hb ?_); (case ha => rfl); (case hb => rfl))
  | ((with_reducible refine' n_sub ?ha ?hb ?hc ?_); (case ha => rfl); (case hb => rfl); (case hc => first | omega | assumption | decide))
  | ((with_reducible refine' n_mul ?ha ?hb ?hc ?_); (case ha => rfl); (case hb => rfl); (case hc => first | omega | assumption | decide))
  | ((with_reducible refine' n_shr ?ha ?hb ?_); (case ha => rfl); (case hb => rfl))
  | ((with_reducible refine' n_shl ?ha ?hb ?hc ?hd ?_); (case ha => rfl); (case hb => rfl); (case hc => first | omega | assumption | decide); (case hd => first | omega | assumption | decide))
  | ((with_reducible refine' n_lt ?ha ?hb ?_); (case ha => rfl); (case hb => rfl))
  | ((with_reducible refine' n_gt ?ha ?hb ?_); (case ha => rfl); (case hb => rfl))
  | ((with_reducible refine' n_eq ?ha ?hb ?_); (case ha => rfl); (case hb => rfl))
  | ((with_reducible refine' n_ne ?ha ?hb ?_); (case ha => rfl); (case hb => rfl))
  | (with_reducible refine ⟨_, rfl, ?_⟩)
  | (with_reducible refine ⟨_, _, rfl, ?_⟩)
  | (with_reducible refine ⟨_, _, _, rfl, ?_⟩)
  | (with_reducible refine ⟨_, _, _, _, rfl, ?_⟩)
  | exact ⟨rfl, _, rfl, rfl⟩)
local macro_rules | `(tactic| walk_at "d") => `(tactic| (repeat (walk_at "d1")))
section
variable {P : Program} {w : World} {K : PySem.W.Frag} {mg : Str → Option Value} {base : Heap}
theorem any_kvN (f : List (Sn × Nat)) (s : Sn) : ((kvN f).any fun e => decide (e.1 = .tup (kS s))) = f.any fun e => decide (e.1 = s) := by
  rw [List.any_map]
  congr 1
  funext e
  show decide (NestedKey.tup (kS e.1) = .tup (kS s)) = decide (e.1 = s)
  by_cases h : e.1 = s
  · rw [h]; simp
  · rw [decide_eq_false h, decide_eq_false fun z => h (kS_eq.mp z)]
theorem lookD_kvN (f : List (Sn × Nat)) (s : Sn) : lookD (kvN f) (.tup (kS s)) = (lookL f s).map nI := by
  induction f with
  | nil => rfl
  | cons e r ih =>
    by_cases h : e.1 = s
    · simp [lookD, lookL, h]
    · have h' : ¬ NestedKey.tup (kS e.1) = NestedKey.tup (kS s) := fun z => h (kS_eq.mp z)
      unfold lookD lookL at ih ⊢
      rw [show kvN (e :: r) = (.tup (kS e.1), nI e.2) :: kvN r from rfl, List.find?_cons, List.find?_cons, decide_eq_false h', decide_eq_false h]
      exact ih
theorem putD_kvN (f : List (Sn × Nat)) (s : Sn) (n : Nat) : putD (kvN f) (.tup (kS s)) (nI n) = kvN (putL f s n) := by
  unfold putD putL
  rw [any_kvN]
  by_cases h : (f.any fun e => decide (e.1 = s)) = true
  · rw [if_pos h, if_pos h]
    simp only [kvN, List.map_map]
    refine List.map_congr_left fun e _ => ?_
    show (if NestedKey.tup (kS e.1) = .tup (kS s) then (NestedKey.tup (kS e.1), nI n) else (NestedKey.tup (kS e.1), nI e.2)) = (.tup (kS (if e.1 = s then (e.1, n) else e).1), nI (if e.1 = s then (e.1, n) else e).2)
    by_cases q : e.1 = s
    · rw [if_pos (kS_eq.mpr q), if_pos q]
    · rw [if_neg (fun z => q (kS_eq.mp z)), if_neg q]
  · rw [if_neg h, if_neg h]
    simp [kvN]
abbrev Tf (T : Tdy) (f : List (Sn × Nat)) : Tdy := { T with fresh := f }
abbrev mkT (P : Program) (w : World) (CT CS CH CM : Addr) (m : Mak) (T : Tdy) (f : List (Sn × Nat)) : Cells := mkC CM m ++ tdC P w CT CS CH (Tf T f)
theorem has_tdM {P : Program} {w : World} {CT CS CH CM : Addr} {T : Tdy} {f : List (Sn × Nat)} {m : Mak} {S0 H0 : Hp} {M : List Addr} : HasT P w CT CS (Tf T f) (Wd.sym S0 H0 M (mkT P w CT CS CH CM m T f)) :=
  ⟨has_cell (n := 8) rfl, ⟨has_cell (n := 13) rfl, has_cell (n := 14) rfl, has_cell (n := 15) rfl, has_cell (n := 16) rfl⟩, has_cell (n := 12) rfl, has_cell (n := 9) rfl, has_cell (n := 10) rfl, has_cell (n := 11) rfl⟩
theorem set_fr {P : Program} {w : World} {CT CS CH CM : Addr} {T : Tdy} {f : List (Sn × Nat)} {m : Mak} (s : Sn) (n : Nat) : (mkT P w CT CS CH CM m T f).set 9 (T.fr, .dic P w T.fr (putD (kvN f) (.tup (kS s)) (nI n))) = mkT P w CT CS CH CM m T (putL f s n) := by
  rw [putD_kvN]
  rfl
theorem has_mk3 {P : Program} {w : World} {CT CS CH CM : Addr} {T : Tdy} {f : List (Sn × Nat)} {m : Mak} {S0 H0 : Hp} {M : List Addr} : Has (Wd.sym S0 H0 M (mkT P w CT CS CH CM m T f)) m.a (cM3 CM m) := has_cell (n := 3) rfl
abbrev begN (c : Circ) : List Nat := (keptN c).map fun p => (c.mems.getD (p - c.ins) (0, 0)).1
theorem sz1k {n : Nat} (h : n ≤ 400) : n < sizeLine := Nat.lt_of_le_of_lt h (by decide)
abbrev sp_Tidying_made (P : Program) (w : World) (CT CS CH : Addr) : Sp := spG (fun T : Tdy => [.raw (.ref T.a)]) (fun T _ _ => COk T.c ∧ T.fresh = []) (fun T => tdC P w CT CS CH T) (fun T r cs => r = .dat (enC (tidyN T.c)) ∧ cs = tdC P w CT CS CH (Tf T (mkN T.c).fr))

abbrev N_Tidying_made : List Str := ["self", "ins", "memories", "gates", "outs", "kept", "place", "making", "bit", "table", "left", "one", "nexts"]
theorem sc_Tidying_made : FnScope N_Tidying_made ["self"] (defScope s_Tidying_made) := ⟨rfl, rfl, rfl, by decide +kernel, rfl, by decide +kernel, by decide +kernel⟩
theorem ok_Tidying_made {k : Nat} {f : Addr} {fd : FuncData} (F : FnP K "made" "Tidying.made" s_Tidying_made f fd) (T : Fx mg) {CT CS CH CM : Addr} (kt : KT K CT) (ks : KS K CS) (c_Making : CalC P w K mg base k CM "Making" ["self", "ins", "begins"] (sp_Making_init CM)) (c_Making_finished : CalM P w K mg base k CM "finished" ["self", "nexts", "outs"] (sp_Making_finished CM)) (c_Making_gate : CalM P w K mg base k CM "gate" ["self", "table", "places"] (sp_Making_gate CM)) (c_Tidying_next_sense : CalM P w K mg base k CT "next_sense" ["self", "place"] (sp_Tidying_next_sense P w CT CS)) (c_Tidying_own_places : CalM P w K mg base k CT "own_places" ["self"] (sp_Tidying_own_places P w CT CS)) : FnOk P w K mg base CX0 (k + 1) f fd ["self"] (sp_Tidying_made P w CT CS CH) := by
  refine F.ok sc_Tidying_made (spG_len fun _ => rfl) (fun cdv A outer s H vs Q E hr hsp => ?_)
  refine ⟨_, PSs.nox (pss_cons (ps_asg (pe_fld (pv 0) rfl) (pg_tup rfl (pgs_cons (pg_name (i := 1) sc_Tidying_made.nd rfl (Or.inr rfl)) (pgs_cons (pg_name (i := 2) sc_Tidying_made.nd rfl (Or.inr rfl)) (pgs_cons (pg_name (i := 3) sc_Tidying_made.nd rfl (Or.inl rfl)) (pgs_cons (pg_name (i := 4) sc_Tidying_made.nd rfl (Or.inl rfl)) pgs_nil))))))
    (pss_cons (ps_setLc (i := 5) (own := [("place", 6)]) (g := gName 6) (by rfl) sc_Tidying_made.nd rfl rfl (sw_true rfl rfl rfl (by decide +kernel)) (pi_list (pe_mcal0 (pv 0) c_Tidying_own_places hr)) (blkOk_by (own := [("place", 6)]) (N := N_Tidying_made) (sc := defScope s_Tidying_made) (by decide +kernel)) (fun _ _ _ _ _ => pg_name (i := 6) sc_Tidying_made.nd rfl (Or.inl rfl)) (fun _ _ _ _ _ => pts_one (pt_cmp (pcK_nin (P := P) (w := w) (by rfl) (by rfl) hr (pe_tup (pa_cons pe_str (pa_cons (pv 6) pa_nil))) (peK_fld (K := K) (by rfl) (pv 0) rfl)))) (fun _ _ _ _ _ => pv 6))
    (pss_cons (ps_set (i := 7) sc_Tidying_made.nd rfl (Or.inl rfl) (pe_ccal c_Making hr (by rfl) (pa_cons (pv 1) (pa_cons (pe_lc (own := [("place", 6)]) (g := gName 6) (by rfl) sc_Tidying_made.nd (pi_list (pv 5)) (blkOk_by (own := [("place", 6)]) (N := N_Tidying_made) (sc := defScope s_Tidying_made) (by decide +kernel)) (fun _ _ _ _ _ => pg_name (i := 6) sc_Tidying_made.nd rfl (Or.inl rfl)) (fun _ _ _ _ _ => pts_nil) (fun _ _ _ _ _ => pe_ix (ixK_tup (K := K) (by rfl)) (pe_ix (ixK_list (K := K) (by rfl)) (pv 2) (pe_op op_sub (pv 6) (pv 1)) (fun _ _ => rfl)) pe_int (fun _ _ => rfl))) pa_nil))))
    (pss_cons (ps_for PassesOwn.never rfl (pi_list (pe_op op_cat (pe_listRg rfl (by rfl) T.list (prg_1 (by rfl) T.range (pv 1))) (pv 5))) (pg_name (i := 6) sc_Tidying_made.nd rfl (Or.inl rfl))
    (pss_one (ps_nput hr (pe_fld (pv 0) rfl) (pe_tup (pa_cons pe_str (pa_cons (pv 6) pa_nil))) (pe_callB call_lenN (by rfl) T.len PySem.boot_len (pa_cons (pe_fld (pv 0) rfl) pa_nil)) rfl)))
    (pss_cons (ps_for PassesOwn.never rfl (pi_tup (pe_tup (pa_cons pe_int (pa_cons pe_int pa_nil)))) (pg_name (i := 8) sc_Tidying_made.nd rfl (Or.inl rfl))
    (pss_one (ps_if (pt_cmp (pc_nin hr (pe_tup (pa_cons pe_str (pa_cons (pv 8) pa_nil))) (pe_fld (pv 0) rfl)))
    (pss_one (ps_nput hr (pe_fld (pv 0) rfl) (pe_tup (pa_cons pe_str (pa_cons (pv 8) pa_nil))) (pe_mcal (pv 7) c_Making_gate hr (pa_cons (pv 8) (pa_cons (pe_tup pa_nil) pa_nil))) rfl))
    pss_nil)))
    (pss_cons (ps_for PassesOwn.never rfl (pi_list (pe_callB (call_sortedDI' rfl) (by rfl) T.sorted (by decide +kernel) (pa_cons (pe_fld (pe_fld (pv 0) rfl) rfl) pa_nil))) (pg_name (i := 6) sc_Tidying_made.nd rfl (Or.inl rfl))
    (pss_one (ps_if (pt_cmp (pc_nin hr (pe_tup (pa_cons pe_str (pa_cons (pv 6) pa_nil))) (pe_fld (pv 0) rfl)))
    (pss_cons (ps_asg (pe_dget (hu_of hr) (pe_fld (pe_fld (pv 0) rfl) rfl) (pv 6) (fun _ _ => rfl)) (pg_tup rfl (pgs_cons (pg_name (i := 9) sc_Tidying_made.nd rfl (Or.inl rfl)) (pgs_cons (pg_name (i := 10) sc_Tidying_made.nd rfl (Or.inl rfl)) pgs_nil))))
    (pss_one (ps_nput hr (pe_fld (pv 0) rfl) (pe_tup (pa_cons pe_str (pa_cons (pv 6) pa_nil))) (pe_mcal (pv 7) c_Making_gate hr (pa_cons (pv 9) (pa_cons (pe_lc (own := [("one", 11)]) (g := gName 11) (by rfl) sc_Tidying_made.nd (pi_tup (pv 10)) (blkOk_by (own := [("one", 11)]) (N := N_Tidying_made) (sc := defScope s_Tidying_made) (by decide +kernel)) (fun _ _ _ _ _ => pg_name (i := 11) sc_Tidying_made.nd rfl (Or.inl rfl)) (fun _ _ _ _ _ => pts_nil) (fun _ _ _ _ _ => peK_nget (P := P) (w := w) (by rfl) (by rfl) hr (peK_fld (K := K) (by rfl) (pv 0) rfl) (pe_tup (pa_cons pe_str (pa_cons (pv 11) pa_nil))) (fun _ _ => rfl))) pa_nil))) rfl)))
    pss_nil)))
    (pss_cons (ps_setLc (i := 12) (own := [("place", 6)]) (g := gName 6) (by rfl) sc_Tidying_made.nd rfl rfl (sw_true rfl rfl rfl (by decide +kernel)) (pi_list (pv 5)) (blkOk_by (own := [("place", 6)]) (N := N_Tidying_made) (sc := defScope s_Tidying_made) (by decide +kernel)) (fun _ _ _ _ _ => pg_name (i := 6) sc_Tidying_made.nd rfl (Or.inl rfl)) (fun _ _ _ _ _ => pts_nil) (fun _ _ _ _ _ => peK_nget (P := P) (w := w) (by rfl) (by rfl) hr (peK_fld (K := K) (by rfl) (pv 0) rfl) (pe_mcal (pv 0) c_Tidying_next_sense hr (pa_cons (pv 6) pa_nil)) (fun _ _ => rfl)))
    (pss_one (ps_ret (pe_mcal (pv 7) c_Making_finished hr (pa_cons (pv 12) (pa_cons (pe_lc (own := [("place", 6)]) (g := gName 6) (by rfl) sc_Tidying_made.nd (pi_list (pv 4)) (blkOk_by (own := [("place", 6)]) (N := N_Tidying_made) (sc := defScope s_Tidying_made) (by decide +kernel)) (fun _ _ _ _ _ => pg_name (i := 6) sc_Tidying_made.nd rfl (Or.inl rfl)) (fun _ _ _ _ _ => pts_nil) (fun _ _ _ _ _ => peK_nget (P := P) (w := w) (by rfl) (by rfl) hr (peK_fld (K := K) (by rfl) (pv 0) rfl) (pe_ix (ixK_list (K := K) (by rfl)) (peK_fld (K := K) (by rfl) (peK_fld (K := K) (by rfl) (pv 0) rfl) rfl) (pv 6) (fun _ _ => rfl)) (fun _ _ => rfl))) pa_nil)))))))))))), ?_⟩
  refine run_spG (P := P) (w := w) hsp ?_
  rintro T S H ⟨hc, hf0⟩
  have hins := hc.ins
  have hms := hc.mems
  have hgs := hc.gates
  have hos := hc.outs
  have hfe := first_eq T.c
  have hkl := kept_len T.c
  have hzi := sens_inv hc
  have hll := sens_left_len T.c
  have ht : HasT P w CT CS T (Wd.sym S H (adr (tdC P w CT CS CH T)) (tdC P w CT CS CH T ++ [])) := has_td
  rw [List.append_nil] at ht
  refine se_seq (se_asg (ee_f (ns := nsT) (j := 0) (by decide) (ee_raw rfl ⟨T.a, CT, _, _, rfl, ht.h0, kt.cls, kt.circuit, rfl, (fun i z => nomatch z), _, _, rfl, gs_tup4, ?_⟩)))
  refine se_seq (se_set (ee_new (en_filtX (ownN T.c) nI nI (fun p => decide (.pl p ∈ needN T.c)) (es_list (ee_methR (ee_raw rfl ⟨T.a, rfl, mth_of ht.h0 (by decide), ea_nil ⟨T, rfl, by simp, fun S' H' e hw => ⟨ht.now S' H' e hw, hc⟩, ?_⟩⟩))))))
  rintro d rfl
  refine ⟨_, rfl, rfl, rfl, ?_, ?_, ?_⟩
  · exact Nat.lt_of_le_of_lt (Nat.le_trans (own_len T.c) hms) (by decide)
  · intro p hp
    refine ⟨_, gs_name, rfl, et_B (ee_nin (ee_tup (ea_cons (ee_str (ea_cons (ee_dat rfl (ea_nil ⟨[_, _], rfl, (by show 2 ≤ sizeLine; decide), ee_f (ns := nsT) (j := 2) (by decide) (ee_raw rfl ⟨T.a, CT, _, _, rfl, ht.h0, kt.cls, kt.needed, rfl, (fun i z => nomatch z), kvF (needN T.c), kS (.pl p), ht.hn, congrArg Rs.dat (enS_k (.pl p)), kS_depth _, _, rfl, rfl, rfl, ?_, fun _ => ee_dat rfl ⟨rfl, rfl, rfl⟩⟩)⟩)))))))⟩
    rw [if_neg Bool.false_ne_true, lookD_kvF]
    by_cases z : Sn.pl p ∈ needN T.c <;> simp [z]
  refine ⟨_, rfl, ?_⟩
  have ekept : ((ownN T.c).filter fun p => decide (.pl p ∈ needN T.c)) = keptN T.c := rfl
  rw [ekept]
  refine se_seq (se_setV (ee_make (ea_cons (ee_dat rfl (ea_cons (ee_new (en_mapX (keptN T.c) nI (fun p => nI (T.c.mems.getD (p - T.c.ins) (0, 0)).1) (es_list (ee_dat rfl ⟨_, rfl, rfl, rfl, ?_, ?_, ?_⟩)))))))))
  · exact Nat.lt_of_le_of_lt (Nat.le_trans hkl hms) (by decide)
  · intro p hp
    obtain ⟨k1, k2, _⟩ := kept_mem.mp hp
    exact ⟨_, gs_name, rfl, ee_op (ee_op (ee_dat rfl (ee_op (ee_dat rfl (ee_dat rfl (n_sub rfl rfl k1 (n_ixL rfl (mem_en k1 k2) (ee_lit (n_ixT rfl rfl ⟨rfl, rfl, rfl⟩)))))))))⟩
  refine ea_nil ⟨S, H, _, _, rfl, fun x => ⟨⟨x, T.c.ins, begN T.c⟩, ?_, ?_, rfl, fun _ _ _ _ => trivial, fun _ _ _ _ _ _ h => h, ?_⟩⟩
  · show [_, _, Rs.dat (PyData.list (List.map _ _))] = [_, _, Rs.dat (PyData.list (List.map nI (List.map _ (keptN T.c))))]
    rw [List.map_map]
    rfl
  · intro r' hr' j
    simp at hr'
    rcases hr' with rfl | rfl | rfl <;> exact fun z => nomatch z
  rintro r cs' ⟨rfl, b, g, s, rfl⟩
  refine ⟨rfl, _, rfl, ?_⟩
  have ef0 : mkC CM ⟨x, b, g, s, T.c.ins, begN T.c, []⟩ ++ tdC P w CT CS CH T = mkT P w CT CS CH CM ⟨x, b, g, s, T.c.ins, begN T.c, []⟩ T [] := by
    show _ = mkC CM ⟨x, b, g, s, T.c.ins, begN T.c, []⟩ ++ tdC P w CT CS CH { T with fresh := [] }
    rw [← hf0]
  rw [ef0]
  refine se_seq (se_forX (List.range T.c.ins ++ keptN T.c) nI (fun r Ω' δ' => ∃ f, f.length + r.length ≤ T.c.first ∧ r.foldl (fun l p => putL l (.pl p) l.length) f = (mk0 T.c).fr ∧ Ω' = Wd.sym S H (adr (tdC P w CT CS CH T)) (mkT P w CT CS CH CM ⟨x, b, g, s, T.c.ins, begN T.c, []⟩ T f) ∧ ∃ a1, a1.mine = false ∧ δ' = [.raw (.ref T.a), .dat (nI T.c.ins), .dat (.list (T.c.mems.map enM)), .dat (.list (T.c.gates.map enG)), .dat (nL T.c.outs), .dat (nL (keptN T.c)), a1, .raw (.ref x), .un, .un, .un, .un, .un]) (es_list (ee_new (en_cat (ee_new (en_listRg1 (ee_dat rfl ⟨T.c.ins, rfl, by omega, ee_dat rfl ⟨_, _, rfl, rfl, ?_, _, rfl, ?_, ⟨[], ?_, rfl, rfl, .un, rfl, rfl⟩, ?_, ?_⟩⟩)))))))
  · rw [List.length_map, List.length_range, List.length_map]
    exact Nat.le_trans (show T.c.ins + (keptN T.c).length ≤ 200 by omega) (by decide)
  · rw [List.map_append]
  · rw [List.length_append, List.length_range]
    simp
    omega
  · rintro pre p r Ω' δ' hx ⟨f, hfl, hff, rfl, a1, ha1, rfl⟩
    have hm : HasT P w CT CS (Tf T f) (Wd.sym S H (adr (tdC P w CT CS CH T)) (mkT P w CT CS CH CM ⟨x, b, g, s, T.c.ins, begN T.c, []⟩ T f)) := has_tdM
    rw [List.length_cons] at hfl
    refine ⟨_, gs_name, ?_⟩
    refine se_nputC (ee_cb (ea_cons (ee_f (ns := nsT) (j := 4) (by decide) (ee_raw rfl ⟨T.a, CT, _, _, rfl, hm.h0, kt.cls, kt.fresh, rfl, (fun i z => nomatch z), ea_nil (cb_lenN (kvs := kvN f) hm.hf ?_)⟩))))
    rw [List.length_map]
    refine ee_f (ns := nsT) (j := 4) (by decide) (ee_raw rfl ⟨T.a, CT, _, _, rfl, hm.h0, kt.cls, kt.fresh, rfl, (fun i z => nomatch z), ee_tup (ea_cons (ee_str (ea_cons (ee_dat rfl (ea_nil ⟨[_, _], rfl, (by show 2 ≤ sizeLine; decide), S, H, _, _, 9, _, _, kvN f, kS (.pl p), rfl, rfl, rfl, rfl, congrArg Rs.dat (enS_k (.pl p)), kS_depth _, ?_, ?_⟩)))))⟩)
    · rw [List.length_map]
      exact sz1k (by omega)
    rw [set_fr]
    refine ⟨putL f (.pl p) f.length, ?_, hff, rfl, .dat (nI p), rfl, rfl⟩
    have := putL_len f (.pl p) f.length
    omega
  rintro Ω' δ' ⟨f, -, hff, rfl, a1, ha1, rfl⟩
  have hff : f = (mk0 T.c).fr := hff
  subst hff
  refine se_seq (se_forX [0, 1] nI (fun r Ω' δ' => ∃ m : Mk, m.fr.length + r.length ≤ T.c.first + 2 ∧ m.gates.length + r.length ≤ 2 ∧ r.foldl (mkBit T.c) m = mk2 T.c ∧ Ω' = Wd.sym S H (adr (tdC P w CT CS CH T)) (mkT P w CT CS CH CM ⟨x, b, g, s, T.c.ins, begN T.c, m.gates⟩ T m.fr) ∧ ∃ a1 a2, a1.mine = false ∧ δ' = [.raw (.ref T.a), .dat (nI T.c.ins), .dat (.list (T.c.mems.map enM)), .dat (.list (T.c.gates.map enG)), .dat (nL T.c.outs), .dat (nL (keptN T.c)), a1, .raw (.ref x), a2, .un, .un, .un, .un]) (es_tup (ee_tup (ea_cons (ee_lit (ea_cons (ee_lit (ea_nil ⟨[_, _], rfl, (by show 2 ≤ sizeLine; decide), _, rfl, rfl, ⟨mk0 T.c, ?_, ?_, rfl, rfl, a1, .un, ha1, rfl⟩, ?_, ?_⟩))))))))
  · have := (fr0 T.c).2
    show (mk0 T.c).fr.length + 2 ≤ _
    omega
  · exact Nat.le_refl _
  · rintro pre v r Ω' δ' hx ⟨m, hfl, hgl, hff, rfl, a1, a2, ha1, rfl⟩
    have hm : HasT P w CT CS (Tf T m.fr) (Wd.sym S H (adr (tdC P w CT CS CH T)) (mkT P w CT CS CH CM ⟨x, b, g, s, T.c.ins, begN T.c, m.gates⟩ T m.fr)) := has_tdM
    rw [List.length_cons] at hfl hgl
    refine ⟨_, gs_name, ?_⟩
    refine se_if (et_B (ee_nin (ee_tup (ea_cons (ee_str (ea_cons (ee_dat rfl (ea_nil ⟨[_, _], rfl, (by show 2 ≤ sizeLine; decide), ee_f (ns := nsT) (j := 2) (by decide) (ee_raw rfl ⟨T.a, CT, _, _, rfl, hm.h0, kt.cls, kt.needed, rfl, (fun i z => nomatch z), kvF (needN T.c), kS (.bit v), hm.hn, congrArg Rs.dat (enS_k (.bit v)), kS_depth _, _, rfl, fun hb => ?_, fun hb => ?_⟩)⟩))))))))
    · have hn : Sn.bit v ∈ needN T.c := by
        rw [if_neg Bool.false_ne_true, lookD_kvF] at hb
        by_cases z : Sn.bit v ∈ needN T.c
        · exact z
        · rw [if_neg z] at hb
          cases hb
      refine se_nputC (ee_methG (hr := fun i r cs hp j => by rw [hp.1]; exact fun z => nomatch z) (ee_raw rfl ⟨x, rfl, mth_of has_mk3 (by decide), ea_cons (ee_dat rfl (ea_cons (ee_tup (ea_nil ⟨[], rfl, by decide, ea_nil ⟨⟨⟨x, b, g, s, T.c.ins, begN T.c, m.gates⟩, v, [], false⟩, S, H, _, tdC P w CT CS CH (Tf T m.fr), rfl, rfl, ?_, fun _ _ _ _ => ?_, ?_⟩⟩))))⟩))
      · intro r' hr' j
        simp at hr'
        rcases hr' with rfl | rfl | rfl <;> exact fun z => nomatch z
      · show m.gates.length < 1000
        omega
      rintro r' cs - ⟨rfl, rfl⟩
      dsimp only
      have hm2 : HasT P w CT CS (Tf T m.fr) (Wd.sym S H (adr (tdC P w CT CS CH T)) (mkT P w CT CS CH CM ⟨x, b, g, s, T.c.ins, begN T.c, (m.gates ++ [(v, [])])⟩ T m.fr)) := has_tdM
      refine ee_f (ns := nsT) (j := 4) (by decide) (ee_raw rfl ⟨T.a, CT, _, _, rfl, hm2.h0, kt.cls, kt.fresh, rfl, (fun i z => nomatch z), ee_tup (ea_cons (ee_str (ea_cons (ee_dat rfl (ea_nil ⟨[_, _], rfl, (by show 2 ≤ sizeLine; decide), S, H, _, mkT P w CT CS CH CM ⟨x, b, g, s, T.c.ins, begN T.c, (m.gates ++ [(v, [])])⟩ T m.fr, 9, _, _, kvN m.fr, kS (.bit v), rfl, rfl, rfl, rfl, congrArg Rs.dat (enS_k (.bit v)), kS_depth _, ?_, ?_⟩)))))⟩)
      · rw [List.length_map]
        exact sz1k (by omega)
      rw [set_fr]
      have hl : (begN T.c).length = (keptN T.c).length := by rw [List.length_map]
      rw [hl]
      have em : mkBit T.c m v = ⟨putL m.fr (.bit v) (T.c.ins + (keptN T.c).length + m.gates.length), m.gates ++ [(v, [])]⟩ := by
        unfold mkBit
        rw [if_pos hn]
      rw [List.foldl_cons, em] at hff
      refine ⟨_, ?_, ?_, hff, rfl, a1, .dat (nI v), ha1, rfl⟩
      · have := putL_len m.fr (.bit v) (T.c.ins + (keptN T.c).length + m.gates.length)
        show (putL m.fr (.bit v) _).length + _ ≤ _
        omega
      · show (m.gates ++ _).length + _ ≤ _
        rw [List.length_append]
        simp
        omega
    · have hn : Sn.bit v ∉ needN T.c := fun z => by
        rw [if_neg Bool.false_ne_true, lookD_kvF, if_pos z] at hb
        cases hb
      have em : mkBit T.c m v = m := by
        unfold mkBit
        rw [if_neg hn]
      rw [List.foldl_cons, em] at hff
      exact se_next ⟨m, by omega, by omega, hff, rfl, a1, .dat (nI v), ha1, rfl⟩
  rintro Ω' δ' ⟨m, -, -, hff, rfl, a1, a2, ha1, rfl⟩
  have hff : m = mk2 T.c := hff
  subst hff
  have hm0 : HasT P w CT CS (Tf T (mk2 T.c).fr) (Wd.sym S H (adr (tdC P w CT CS CH T)) (mkT P w CT CS CH CM ⟨x, b, g, s, T.c.ins, begN T.c, (mk2 T.c).gates⟩ T (mk2 T.c).fr)) := has_tdM
  refine se_seq (se_forX (sensN T.c).left (fun e => nI e.1) (fun r Ω' δ' => ∃ pre m, (sensN T.c).left = pre ++ r ∧ FrOk T.c pre m ∧ r.foldl (mkLeft T.c) m = mkN T.c ∧ Ω' = Wd.sym S H (adr (tdC P w CT CS CH T)) (mkT P w CT CS CH CM ⟨x, b, g, s, T.c.ins, begN T.c, m.gates⟩ T m.fr) ∧ ∃ a1 a2 a3 a4, a1.mine = false ∧ δ' = [.raw (.ref T.a), .dat (nI T.c.ins), .dat (.list (T.c.mems.map enM)), .dat (.list (T.c.gates.map enG)), .dat (nL T.c.outs), .dat (nL (keptN T.c)), a1, .raw (.ref x), a2, a3, a4, .un, .un]) (es_list (ee_new (en_cb (ea_cons (ee_left ks (ee_f (ns := nsT) (j := 1) (by decide) (ee_raw rfl ⟨T.a, CT, _, _, rfl, hm0.h0, kt.cls, kt.senses, rfl, (fun i z => nomatch z), T.s, T.t, T.l, T.n, sensN T.c, rfl, hm0.hs, ea_nil (cn_sortedDI (kvs := (sensN T.c).left.map enL) (ks := (sensN T.c).left.map fun e => (e.1 : Int)) hm0.hs.h2 ?_ ?_ ?_ ⟨_, rfl, ?_, ⟨[], mk2 T.c, rfl, fr2 T.c, rfl, rfl, a1, a2, .un, .un, ha1, rfl⟩, ?_, ?_⟩)⟩))))))))
  · rw [List.map_map]
    rfl
  · rw [List.length_map]
    omega
  · refine List.pairwise_map.mpr (List.Pairwise.imp (fun {a b} (h : a.1 < b.1) => ?_) hzi.asc)
    omega
  · rw [List.map_map]
    rfl
  · rintro - e r Ω' δ' - ⟨pre, m, hl, hfr, hff, rfl, a1, a2, a3, a4, ha1, rfl⟩
    have hm : HasT P w CT CS (Tf T m.fr) (Wd.sym S H (adr (tdC P w CT CS CH T)) (mkT P w CT CS CH CM ⟨x, b, g, s, T.c.ins, begN T.c, m.gates⟩ T m.fr)) := has_tdM
    have hpl : pre.length < 60 := by
      rw [hl, List.length_append, List.length_cons] at hll
      omega
    have hfl := hfr.fl
    have hgl := hfr.gl
    have hl2 : (sensN T.c).left = (pre ++ [e]) ++ r := by rw [hl, List.append_assoc]; rfl
    have hem : (e.1, e.2) ∈ (sensN T.c).left := by rw [hl]; simp
    have hge : (sensN T.c).get e.1 = some e.2 := get_of hzi.asc hem
    have hfr2 := fr_step hfr e
    rw [List.foldl_cons] at hff
    refine ⟨_, gs_name, ?_⟩
    refine se_if (et_B (ee_nin (ee_tup (ea_cons (ee_str (ea_cons (ee_dat rfl (ea_nil ⟨[_, _], rfl, (by show 2 ≤ sizeLine; decide), ee_f (ns := nsT) (j := 2) (by decide) (ee_raw rfl ⟨T.a, CT, _, _, rfl, hm.h0, kt.cls, kt.needed, rfl, (fun i z => nomatch z), kvF (needN T.c), kS (.pl e.1), hm.hn, congrArg Rs.dat (enS_k (.pl e.1)), kS_depth _, _, rfl, fun hb => ?_, fun hb => ?_⟩)⟩))))))))
    · have hn : Sn.pl e.1 ∈ needN T.c := by
        rw [if_neg Bool.false_ne_true, lookD_kvF] at hb
        by_cases z : Sn.pl e.1 ∈ needN T.c
        · exact z
        · rw [if_neg z] at hb
          cases hb
      have hbef := fr_before hc hl hfr hn
      refine se_seq (se_asg (ee_leftAt ks (ee_f (ns := nsT) (j := 1) (by decide) (ee_raw rfl ⟨T.a, CT, _, _, rfl, hm.h0, kt.cls, kt.senses, rfl, (fun i z => nomatch z), T.s, T.t, T.l, T.n, sensN T.c, rfl, hm.hs, ee_dat rfl ⟨e.1, e.2, rfl, rfl, hge, _, _, rfl, gs_tup2, ?_⟩⟩))))
      refine se_nputC (ee_methG (hr := fun i r cs hp j => by rw [hp.1]; exact fun z => nomatch z) (ee_raw rfl ⟨x, rfl, mth_of has_mk3 (by decide), ea_cons (ee_dat rfl (ea_cons (ee_new (en_mapX e.2.2 nI (fun o => nI (freshN m.fr (.pl o))) (es_tup (ee_dat rfl ⟨_, rfl, rfl, rfl, ?_, ?_, ?_⟩))))))⟩))
      · exact Nat.lt_of_le_of_lt (hzi.left _ hem).len (by decide)
      · intro o ho
        obtain ⟨n, hn2⟩ := Option.isSome_iff_exists.mp (hbef o ho)
        have hfn : freshN m.fr (.pl o) = n := by unfold freshN; rw [hn2]; rfl
        rw [hfn]
        exact ⟨_, gs_name, rfl, ee_nget (ee_f (ns := nsT) (j := 4) (by decide) (ee_raw rfl ⟨T.a, CT, _, _, rfl, hm.h0, kt.cls, kt.fresh, rfl, (fun i z => nomatch z), ee_tup (ea_cons (ee_str (ea_cons (ee_dat rfl (ea_nil ⟨[_, _], rfl, (by show 2 ≤ sizeLine; decide), kvN m.fr, kS (.pl o), nI n, hm.hf, congrArg Rs.dat (enS_k (.pl o)), kS_depth _, by rw [lookD_kvN, hn2]; rfl, rfl, rfl, rfl⟩)))))⟩))⟩
      refine ea_nil ⟨⟨⟨x, b, g, s, T.c.ins, begN T.c, m.gates⟩, e.2.1, e.2.2.map fun o => freshN m.fr (.pl o), true⟩, S, H, _, tdC P w CT CS CH (Tf T m.fr), rfl, ?_, ?_, fun _ _ _ _ => ?_, ?_⟩
      · dsimp only
        rw [List.map_map]
        rfl
      · intro r' hr' j
        simp at hr'
        rcases hr' with rfl | rfl | rfl <;> exact fun z => nomatch z
      · show m.gates.length < 1000
        omega
      rintro r' cs - ⟨rfl, rfl⟩
      dsimp only
      have hm2 : HasT P w CT CS (Tf T m.fr) (Wd.sym S H (adr (tdC P w CT CS CH T)) (mkT P w CT CS CH CM ⟨x, b, g, s, T.c.ins, begN T.c, (m.gates ++ [(e.2.1, e.2.2.map fun o => freshN m.fr (.pl o))])⟩ T m.fr)) := has_tdM
      refine ee_f (ns := nsT) (j := 4) (by decide) (ee_raw rfl ⟨T.a, CT, _, _, rfl, hm2.h0, kt.cls, kt.fresh, rfl, (fun i z => nomatch z), ee_tup (ea_cons (ee_str (ea_cons (ee_dat rfl (ea_nil ⟨[_, _], rfl, (by show 2 ≤ sizeLine; decide), S, H, _, mkT P w CT CS CH CM ⟨x, b, g, s, T.c.ins, begN T.c, (m.gates ++ [(e.2.1, e.2.2.map fun o => freshN m.fr (.pl o))])⟩ T m.fr, 9, _, _, kvN m.fr, kS (.pl e.1), rfl, rfl, rfl, rfl, congrArg Rs.dat (enS_k (.pl e.1)), kS_depth _, ?_, ?_⟩)))))⟩)
      · rw [List.length_map]
        exact sz1k (by omega)
      rw [set_fr]
      have hbl : (begN T.c).length = (keptN T.c).length := by rw [List.length_map]
      rw [hbl]
      have em : mkLeft T.c m e = ⟨putL m.fr (.pl e.1) (T.c.ins + (keptN T.c).length + m.gates.length), m.gates ++ [(e.2.1, e.2.2.map fun o => freshN m.fr (.pl o))]⟩ := by
        unfold mkLeft
        rw [if_pos hn]
      rw [em] at hff hfr2
      exact ⟨pre ++ [e], _, hl2, hfr2, hff, rfl, .dat (nI e.1), a2, _, _, rfl, rfl⟩
    · have hn : Sn.pl e.1 ∉ needN T.c := fun z => by
        rw [if_neg Bool.false_ne_true, lookD_kvF, if_pos z] at hb
        cases hb
      have em : mkLeft T.c m e = m := by
        unfold mkLeft
        rw [if_neg hn]
      rw [em] at hff hfr2
      exact se_next ⟨pre ++ [e], m, hl2, hfr2, hff, rfl, .dat (nI e.1), a2, a3, a4, rfl, rfl⟩
  rintro Ω' δ' ⟨pre, m, hl, hfr, hff, rfl, a1, a2, a3, a4, ha1, rfl⟩
  have hnm : (!a1.mine && true) = true := by rw [ha1]; rfl
  have hff : m = mkN T.c := hff
  subst hff
  have hm : HasT P w CT CS (Tf T (mkN T.c).fr) (Wd.sym S H (adr (tdC P w CT CS CH T)) (mkT P w CT CS CH CM ⟨x, b, g, s, T.c.ins, begN T.c, (mkN T.c).gates⟩ T (mkN T.c).fr)) := has_tdM
  have hlook : ∀ s, s ∈ needN T.c → lookD (kvN (mkN T.c).fr) (.tup (kS s)) = some (nI (freshN (mkN T.c).fr s)) := fun s hs => by
    obtain ⟨n, hn⟩ := Option.isSome_iff_exists.mp (fr_need hc hs)
    rw [lookD_kvN, freshN, hn]
    rfl
  refine se_seq (se_set (ee_new (en_mapX (keptN T.c) nI (fun p => nI (freshN (mkN T.c).fr (nxtN T.c p))) (es_list (ee_dat rfl ⟨_, rfl, rfl, hnm, ?_, ?_, ?_⟩)))))
  · exact Nat.lt_of_le_of_lt (Nat.le_trans hkl hms) (by decide)
  · intro p hp
    obtain ⟨k1, k2, _⟩ := kept_mem.mp hp
    refine ⟨_, gs_name, rfl, ee_nget (ee_f (ns := nsT) (j := 4) (by decide) (ee_raw rfl ⟨T.a, CT, _, _, rfl, hm.h0, kt.cls, kt.fresh, rfl, (fun i z => nomatch z), ee_methR (ee_raw rfl ⟨T.a, rfl, mth_of hm.h0 (by decide), ea_cons (ee_dat rfl (ea_nil ⟨⟨Tf T (mkN T.c).fr, p⟩, rfl, by simp, fun S2 H2 e2 hw => ⟨hm.now S2 H2 e2 hw, hc, k1, k2⟩, fun d hd => ?_⟩))⟩)⟩))⟩
    subst hd
    exact ⟨kvN (mkN T.c).fr, kS (nxtN T.c p), _, hm.hf, congrArg Rs.dat (enS_k _), kS_depth _, hlook _ (need_next hc hp), rfl, rfl, rfl⟩
  refine ⟨_, rfl, ?_⟩
  have enx : (keptN T.c).map (fun p => nI (freshN (mkN T.c).fr (nxtN T.c p))) = ((keptN T.c).map fun p => freshN (mkN T.c).fr (nxtN T.c p)).map nI := by
    rw [List.map_map]
    rfl
  rw [enx]
  refine se_ret (EE.drop (ee_methR (ee_raw rfl ⟨x, rfl, mth_of has_mk3 (by decide), ea_cons (ee_dat rfl (ea_cons (ee_new (en_mapX T.c.outs nI (fun p => nI (freshN (mkN T.c).fr ((sensN T.c).say p))) (es_list (ee_dat rfl ⟨_, rfl, rfl, hnm, ?_, ?_, ?_⟩))))))⟩)))
  · exact Nat.lt_of_le_of_lt hos (by decide)
  · intro p hp
    have hlt : p < (sensN T.c).told.length := by rw [hzi.ok.len]; exact hc.out p hp
    exact ⟨_, gs_name, rfl, ee_nget (ee_f (ns := nsT) (j := 4) (by decide) (ee_raw rfl ⟨T.a, CT, _, _, rfl, hm.h0, kt.cls, kt.fresh, rfl, (fun i z => nomatch z), ee_op (ee_told ks (ee_f (ns := nsT) (j := 1) (by decide) (ee_raw rfl ⟨T.a, CT, _, _, rfl, hm.h0, kt.cls, kt.senses, rfl, (fun i z => nomatch z), T.s, T.t, T.l, T.n, sensN T.c, rfl, hm.hs, ee_dat rfl (o2_ixH hm.hs.h1 rfl (told_get hlt) ⟨kvN (mkN T.c).fr, kS ((sensN T.c).say p), _, hm.hf, congrArg Rs.dat (enS_k _), kS_depth _, hlook _ ((need_ok hc).out p hp), rfl, rfl, rfl⟩)⟩)))⟩))⟩
  have eou : T.c.outs.map (fun p => nI (freshN (mkN T.c).fr ((sensN T.c).say p))) = (T.c.outs.map fun p => freshN (mkN T.c).fr ((sensN T.c).say p)).map nI := by
    rw [List.map_map]
    rfl
  rw [eou]
  refine ea_nil ⟨⟨⟨x, b, g, s, T.c.ins, begN T.c, (mkN T.c).gates⟩, (keptN T.c).map fun p => freshN (mkN T.c).fr (nxtN T.c p), T.c.outs.map fun p => freshN (mkN T.c).fr ((sensN T.c).say p)⟩, rfl, by simp, fun S2 H2 e2 hw => ⟨⟨?_, ?_, ?_⟩, ?_, ?_⟩, fun d hd => ?_⟩
  · exact has_now has_mk3 e2 hw
  · exact has_now (has_cell (n := 1) rfl) e2 hw
  · exact has_now (has_cell (n := 2) rfl) e2 hw
  · show (begN T.c).length = List.length _
    rw [List.length_map, List.length_map]
  · show List.length _ ≤ 1000
    rw [List.length_map]
    omega
  · subst hd
    exact ⟨S, H, _, mkC CM ⟨x, b, g, s, T.c.ins, begN T.c, (mkN T.c).gates⟩, tdC P w CT CS CH (Tf T (mkN T.c).fr), rfl, (fun i z => nomatch z), _, rfl, (fun i z => nomatch z), rfl, rfl⟩

end
end G
set_option Elab.async false
set_option linter.all false
set_option maxRecDepth 100000
set_option maxHeartbeats 4000000
set_option autoImplicit false
namespace G
open PySem PySem.Spec PyProof.Rows L2 D M
local macro_rules | `(tactic| walk_at "d1") => `(tactic| first
  | (with_reducible refine se_seq ?_)
  | (with_reducible refine se_next ?_)
  | (with_reducible refine se_set ?_)
  | (with_reducible refine se_retD ?_)
  | (with_reducible refine se_if ?_)
  | (with_reducible refine ee_lit ?_)
  | (with_reducible refine ee_int ?_)
  | (with_reducible refine ee_str ?_)
  | (with_reducible refine ee_bl ?_)
  | (with_reducible refine ee_non ?_)
  | (with_reducible refine ee_op ?_)
  | (with_reducible refine ee_tup ?_)
  | (with_reducible refine ee_cb ?_)
  | (with_reducible refine et_test ?_)
  | (with_reducible refine ea_nil ?_)
  | (with_reducible refine ea_cons ?_)
  | ((with_reducible refine' ee_dat ?e ?_); (case e => rfl))
  | ((with_reducible refine' ee_own ?e ?_); (case e => rfl))
  | ((with_reducible refine' ee_raw ?e ?_); (case e => rfl))
  | ((with_reducible refine' n_and ?ha ?hb ?_); (case ha => rfl); (case hb => rfl))
  | ((with_reducible refine' n_or ?ha ?hb ?_); (case ha => rfl); (case hb => rfl))
  | ((with_reducible refine' n_xor ?ha ?hb ?_); (case ha => rfl); (case hb => rfl))
  | ((with_reducible refine' n_add ?ha ?hb ?_); (case ha => rfl); (case hb => rfl))
  | ((with_reducible refine' n_sub ?ha ?hb ?hc ?_); (case ha => rfl); (case hb => rfl); (case hc => first | omega | assumption | decide))
  | ((with_reducible refine' n_mul ?ha ?hb ?hc ?_); (case ha => rfl); (case hb => rfl); (case hc => first | omega | assumption | decide))
  | ((with_reducible refine' n_shr ?ha ?hb ?_); (case ha => rfl); (case hb => rfl))
  | ((with_reducible refine' n_shl ?ha ?hb ?hc ?hd ?_); (case ha => rfl); (case hb => rfl); (case hc => first | omega | assumption | decide); (case hd => first | omega | assumption | decide))
  | ((with_reducible refine' n_lt ?ha ?hb ?_); (case ha => rfl); (case hb => rfl))
  | ((with_reducible refine' n_gt ?ha ?hb ?_); (case ha => rfl); (case hb => rfl))
  | ((with_reducible refine' n_eq ?ha ?hb ?_); (case ha => rfl); (case hb => rfl))
  | ((with_reducible refine' n_ne ?ha ?hb ?_); (case ha => rfl); (case hb => rfl))
  | (with_reducible refine ⟨_, rfl, ?_⟩)
  | (with_reducible refine ⟨_, _, rfl, ?_⟩)
  | (with_reducible refine ⟨_, _, _, rfl, ?_⟩)
  | (with_reducible refine ⟨_, _, _, _, rfl, ?_⟩)
  | exact ⟨rfl, _, rfl, rfl⟩)
local macro_rules | `(tactic| walk_at "d") => `(tactic| (repeat (walk_at "d1")))
section
variable {P : Program} {w : World} {K : PySem.W.Frag} {mg : Str → Option Value} {base : Heap}
/-! spots -/
def SpQ (fr : List (Sn × Nat)) (s : Sn) (d : PyData) : Prop := ∃ a b : Nat, d = .tuple [nI a, nI b] ∧ (a = 0 → s = .pl b ∧ lookL fr s = none)
def Cov (fr : List (Sn × Nat)) (sp : List (NK × PyData)) (Q : Sn → Prop) : Prop := ∀ s, Q s → ∃ d, lookD sp (.tup (kS s)) = some d ∧ SpQ fr s d
theorem Cov.put {fr : List (Sn × Nat)} {sp sp' : List (NK × PyData)} {Q Q' : Sn → Prop} {s : Sn} {d : PyData} (h : Cov fr sp Q) (hd : SpQ fr s d) (hl : ∀ t, lookD sp' (.tup (kS t)) = if t = s then some d else lookD sp (.tup (kS t))) (hq : ∀ t, Q' t → t = s ∨ Q t) : Cov fr sp' Q' := fun t ht => by
  rw [hl]
  by_cases e : t = s
  · rw [if_pos e, e]
    exact ⟨d, rfl, hd⟩
  · rw [if_neg e]
    rcases hq t ht with z | z
    · exact absurd z e
    · exact h t z
theorem look_put (sp : List (NK × PyData)) (s : Sn) (d : PyData) (t : Sn) : lookD (putD sp (.tup (kS s)) d) (.tup (kS t)) = if t = s then some d else lookD sp (.tup (kS t)) := by
  rw [lookD_putD]
  by_cases e : t = s
  · rw [if_pos (kS_eq.mpr e), if_pos e]
  · rw [if_neg (fun z => e (kS_eq.mp z)), if_neg e]
theorem look_put2 (sp : List (NK × PyData)) (s : Sn) (d d' : PyData) (t : Sn) : lookD (putD (putD sp (.tup (kS s)) d) (.tup (kS s)) d') (.tup (kS t)) = if t = s then some d' else lookD sp (.tup (kS t)) := by
  rw [look_put, look_put]
  by_cases e : t = s
  · rw [if_pos e, if_pos e]
  · rw [if_neg e, if_neg e, if_neg e]
abbrev Ts (T : Tdy) (sp : List (NK × PyData)) (hs : List PyData) : Tdy := { T with spots := sp, m := { T.m with hs := hs } }
theorem has_tdn {P : Program} {w : World} {CT CS CH : Addr} {T : Tdy} {S0 H0 : Hp} {M : List Addr} : HasT P w CT CS T (Wd.sym S0 H0 M (tdC P w CT CS CH T)) := by
  have := has_td (P := P) (w := w) (CT := CT) (CS := CS) (CH := CH) (T := T) (S0 := S0) (H0 := H0) (M := M) (rest := [])
  rw [List.append_nil] at this
  exact this
theorem has_tdnH {P : Program} {w : World} {CT CS CH : Addr} {T : Tdy} {S0 H0 : Hp} {M : List Addr} : HasH CH T.m (Wd.sym S0 H0 M (tdC P w CT CS CH T)) := ⟨has_cell (n := 3) rfl, has_cell (n := 2) rfl, has_cell (n := 1) rfl, has_cell (n := 0) rfl⟩
abbrev sp_Tidying_lay_spots (P : Program) (w : World) (CT CS CH : Addr) : Sp := spG (fun T : Tdy => [.raw (.ref T.a)]) (fun T _ _ => COk T.c ∧ T.fresh = (mkN T.c).fr ∧ T.spots = [] ∧ T.m.hs = []) (fun T => tdC P w CT CS CH T) (fun T r cs => r = .dat .none ∧ ∃ sp hs, Cov (mkN T.c).fr sp (RootS T.c (sensN T.c)) ∧ hs.length ≤ 100 ∧ cs = tdC P w CT CS CH (Ts T sp hs))

abbrev N_Tidying_lay_spots : List Str := ["self", "bit", "place", "table", "left", "one"]
theorem sc_Tidying_lay_spots : FnScope N_Tidying_lay_spots ["self"] (defScope s_Tidying_lay_spots) := ⟨rfl, rfl, rfl, by decide +kernel, rfl, by decide +kernel, by decide +kernel⟩
theorem ok_Tidying_lay_spots {k : Nat} {f : Addr} {fd : FuncData} (F : FnP K "lay_spots" "Tidying.lay_spots" s_Tidying_lay_spots f fd) (T : Fx mg) {CT CS CH : Addr} (kt : KT K CT) (ks : KS K CS) (c_Sheet_helper : CalM P w K mg base k CH "helper" ["self", "table", "spots"] (sp_Sheet_helper CH)) (c_Tidying_own_places : CalM P w K mg base k CT "own_places" ["self"] (sp_Tidying_own_places P w CT CS)) : FnOk P w K mg base CX0 (k + 1) f fd ["self"] (sp_Tidying_lay_spots P w CT CS CH) := by
  refine F.ok sc_Tidying_lay_spots (spG_len fun _ => rfl) (fun cdv A outer s H vs Q E hr hsp => ?_)
  refine ⟨_, PSs.nox (pss_cons (ps_for PassesOwn.never rfl (pi_tup (pe_tup (pa_cons pe_int (pa_cons pe_int pa_nil)))) (pg_name (i := 1) sc_Tidying_lay_spots.nd rfl (Or.inl rfl))
    (pss_one (ps_nput hr (pe_fld (pv 0) rfl) (pe_tup (pa_cons pe_str (pa_cons (pv 1) pa_nil))) (pe_mcal (pe_fld (pv 0) rfl) c_Sheet_helper hr (pa_cons (pv 1) (pa_cons (pe_tup pa_nil) pa_nil))) rfl)))
    (pss_cons (ps_for PassesOwn.never rfl (pi_list (pe_op op_cat (pe_listRg rfl (by rfl) T.list (prg_1 (by rfl) T.range (pe_ix ix_tup (pe_fld (pv 0) rfl) pe_int (fun _ _ => rfl)))) (pe_mcal0 (pv 0) c_Tidying_own_places hr))) (pg_name (i := 2) sc_Tidying_lay_spots.nd rfl (Or.inl rfl))
    (pss_cons (ps_nput hr (pe_fld (pv 0) rfl) (pe_tup (pa_cons pe_str (pa_cons (pv 2) pa_nil))) (pe_tup (pa_cons pe_int (pa_cons (pv 2) pa_nil))) rfl)
    (pss_one (ps_if (pt_cmp (pc_nin hr (pe_tup (pa_cons pe_str (pa_cons (pv 2) pa_nil))) (pe_fld (pv 0) rfl)))
    (pss_one (ps_nput hr (pe_fld (pv 0) rfl) (pe_tup (pa_cons pe_str (pa_cons (pv 2) pa_nil))) (pe_tup (pa_cons pe_int (pa_cons (pe_nget hr (pe_fld (pv 0) rfl) (pe_tup (pa_cons pe_str (pa_cons (pv 2) pa_nil))) (fun _ _ => rfl)) pa_nil))) rfl))
    pss_nil))))
    (pss_one (ps_for PassesOwn.never rfl (pi_list (pe_callB (call_sortedDI' rfl) (by rfl) T.sorted (by decide +kernel) (pa_cons (pe_fld (pe_fld (pv 0) rfl) rfl) pa_nil))) (pg_name (i := 2) sc_Tidying_lay_spots.nd rfl (Or.inl rfl))
    (pss_one (ps_if (pt_cmp (pc_nin hr (pe_tup (pa_cons pe_str (pa_cons (pv 2) pa_nil))) (pe_fld (pv 0) rfl)))
    (pss_one (ps_nput hr (pe_fld (pv 0) rfl) (pe_tup (pa_cons pe_str (pa_cons (pv 2) pa_nil))) (pe_tup (pa_cons pe_int (pa_cons (pe_nget hr (pe_fld (pv 0) rfl) (pe_tup (pa_cons pe_str (pa_cons (pv 2) pa_nil))) (fun _ _ => rfl)) pa_nil))) rfl))
    (pss_cons (ps_asg (pe_dget (hu_of hr) (pe_fld (pe_fld (pv 0) rfl) rfl) (pv 2) (fun _ _ => rfl)) (pg_tup rfl (pgs_cons (pg_name (i := 3) sc_Tidying_lay_spots.nd rfl (Or.inl rfl)) (pgs_cons (pg_name (i := 4) sc_Tidying_lay_spots.nd rfl (Or.inl rfl)) pgs_nil))))
    (pss_one (ps_nput hr (pe_fld (pv 0) rfl) (pe_tup (pa_cons pe_str (pa_cons (pv 2) pa_nil))) (pe_mcal (pe_fld (pv 0) rfl) c_Sheet_helper hr (pa_cons (pv 3) (pa_cons (pe_lc (own := [("one", 5)]) (g := gName 5) (by rfl) sc_Tidying_lay_spots.nd (pi_tup (pv 4)) (blkOk_by (own := [("one", 5)]) (N := N_Tidying_lay_spots) (sc := defScope s_Tidying_lay_spots) (by decide +kernel)) (fun _ _ _ _ _ => pg_name (i := 5) sc_Tidying_lay_spots.nd rfl (Or.inl rfl)) (fun _ _ _ _ _ => pts_nil) (fun _ _ _ _ _ => peK_nget (P := P) (w := w) (by rfl) (by rfl) hr (peK_fld (K := K) (by rfl) (pv 0) rfl) (pe_tup (pa_cons pe_str (pa_cons (pv 5) pa_nil))) (fun _ _ => rfl))) pa_nil))) rfl))))))))), ?_⟩
  refine run_spG (P := P) (w := w) hsp ?_
  rintro T S H ⟨hc, hf, hs0, hh0⟩
  have hins := hc.ins
  have hms := hc.mems
  have hgs := hc.gates
  have hfe := first_eq T.c
  have hzi := sens_inv hc
  have hll := sens_left_len T.c
  have hol := own_len T.c
  have e0 : tdC P w CT CS CH T = tdC P w CT CS CH (Ts T [] []) := by
    show tdC P w CT CS CH T = tdC P w CT CS CH { T with spots := [], m := { T.m with hs := [] } }
    rw [← hs0, ← hh0]
  have hM : adr (tdC P w CT CS CH T) = adr (tdC P w CT CS CH (Ts T [] [])) := by rw [← e0]
  have eΩ : Wd.sym S H (adr (tdC P w CT CS CH T)) (tdC P w CT CS CH T) = Wd.sym S H (adr (tdC P w CT CS CH T)) (tdC P w CT CS CH (Ts T [] [])) := congrArg (Wd.sym S H (adr (tdC P w CT CS CH T))) e0
  rw [eΩ]
  refine se_seq (se_forX [0, 1] nI (fun r Ω' δ' => ∃ sp hs, sp.length + r.length ≤ 2 ∧ hs.length + r.length ≤ 2 ∧ Cov (mkN T.c).fr sp (fun s => ∃ b, s = .bit b ∧ b < 2 ∧ b ∉ r) ∧ Ω' = Wd.sym S H (adr (tdC P w CT CS CH T)) (tdC P w CT CS CH (Ts T sp hs)) ∧ ∃ a1, δ' = [.raw (.ref T.a), a1, .un, .un, .un, .un]) (es_tup (ee_tup (ea_cons (ee_lit (ea_cons (ee_lit (ea_nil ⟨[_, _], rfl, (by show 2 ≤ sizeLine; decide), _, rfl, rfl, ⟨[], [], Nat.le_refl _, Nat.le_refl _, ?_, rfl, .un, rfl⟩, ?_, ?_⟩))))))))
  · rintro s ⟨b, rfl, hb, hn⟩
    exact absurd (show b ∈ [0, 1] by simp; omega) hn
  · rintro pre v r Ω' δ' hx ⟨sp, hs, hsl, hhl, hcov, rfl, a1, rfl⟩
    have hm : HasT P w CT CS (Ts T sp hs) (Wd.sym S H (adr (tdC P w CT CS CH T)) (tdC P w CT CS CH (Ts T sp hs))) := has_tdn
    have hh : HasH CH (Ts T sp hs).m (Wd.sym S H (adr (tdC P w CT CS CH T)) (tdC P w CT CS CH (Ts T sp hs))) := has_tdnH
    rw [List.length_cons] at hsl hhl
    refine ⟨_, gs_name, ?_⟩
    refine se_nputC (ee_methG (hr := fun i r cs hp j => by rw [hp.1]; exact fun z => nomatch z) (ee_f (ns := nsT) (j := 3) (by decide) (ee_raw rfl ⟨T.a, CT, _, _, rfl, hm.h0, kt.cls, kt.sheet, rfl, (fun i z => nomatch z), T.m.a, rfl, mth_of hh.h3 (by decide), ea_cons (ee_dat rfl (ea_cons (ee_tup (ea_nil ⟨[], rfl, by decide, ea_nil ⟨⟨(Ts T sp hs).m, v, [], false⟩, S, H, _, tdR P w CT CS (Ts T sp hs), rfl, rfl, ?_, fun _ _ _ _ => ?_, ?_⟩⟩))))⟩)))
    · intro r' hr' j
      simp at hr'
      rcases hr' with rfl | rfl | rfl <;> exact fun z => nomatch z
    · show hs.length ≤ 999
      omega
    rintro r' cs - ⟨rfl, rfl⟩
    dsimp only
    have hm2 : HasT P w CT CS (Ts T sp (hs ++ [.tuple [nI v, .tuple []]])) (Wd.sym S H (adr (tdC P w CT CS CH T)) (tdC P w CT CS CH (Ts T sp (hs ++ [.tuple [nI v, .tuple []]])))) := has_tdn
    refine ee_f (ns := nsT) (j := 5) (by decide) (ee_raw rfl ⟨T.a, CT, _, _, rfl, hm2.h0, kt.cls, kt.spots, rfl, (fun i z => nomatch z), ee_tup (ea_cons (ee_str (ea_cons (ee_dat rfl (ea_nil ⟨[_, _], rfl, (by show 2 ≤ sizeLine; decide), S, H, _, tdC P w CT CS CH (Ts T sp (hs ++ [.tuple [nI v, .tuple []]])), 6, _, _, sp, kS (.bit v), rfl, rfl, rfl, rfl, congrArg Rs.dat (enS_k (.bit v)), kS_depth _, sz1k (by omega), ?_⟩)))))⟩)
    have hpl := putD_len sp (.tup (kS (.bit v))) (.tuple [nI 2, nI hs.length])
    refine ⟨putD sp (.tup (kS (.bit v))) (.tuple [nI 2, nI hs.length]), _, by omega, ?_, hcov.put ⟨2, hs.length, rfl, fun z => by cases z⟩ (look_put _ _ _) ?_, rfl, .dat (nI v), rfl⟩
    · rw [List.length_append]
      simp
      omega
    · rintro t ⟨b, rfl, hb, hn⟩
      by_cases e : b = v
      · rw [e]
        exact .inl rfl
      · exact .inr ⟨b, rfl, hb, fun z => by
          rcases List.mem_cons.mp z with z | z
          · exact e z
          · exact hn z⟩
  rintro Ω' δ' ⟨sp, hs, hsl, hhl, hcov, rfl, a1, rfl⟩
  have hm : HasT P w CT CS (Ts T sp hs) (Wd.sym S H (adr (tdC P w CT CS CH T)) (tdC P w CT CS CH (Ts T sp hs))) := has_tdn
  refine se_seq (se_forX (List.range T.c.ins ++ ownN T.c) nI (fun r Ω' δ' => ∃ sp, sp.length + 2 * r.length ≤ 450 ∧ Cov (mkN T.c).fr sp (fun s => (∃ b, s = .bit b ∧ b < 2) ∨ ∃ p, s = .pl p ∧ (p ∈ List.range T.c.ins ++ ownN T.c) ∧ p ∉ r) ∧ Ω' = Wd.sym S H (adr (tdC P w CT CS CH T)) (tdC P w CT CS CH (Ts T sp hs)) ∧ ∃ a1 a2, δ' = [.raw (.ref T.a), a1, a2, .un, .un, .un]) (es_list (ee_new (en_cat (ee_new (en_listRg1 (ee_op (ee_f (ns := nsT) (j := 0) (by decide) (ee_raw rfl ⟨T.a, CT, _, _, rfl, hm.h0, kt.cls, kt.circuit, rfl, (fun i z => nomatch z), ee_lit (n_ixT rfl rfl ⟨T.c.ins, rfl, by omega, ee_methR (ee_raw rfl ⟨T.a, rfl, mth_of hm.h0 (by decide), ea_nil ⟨Ts T sp hs, rfl, by simp, fun S2 H2 e2 hw => ⟨hm.now S2 H2 e2 hw, hc⟩, fun d hd => ?_⟩⟩)⟩)⟩)))))))))
  · subst hd
    refine ⟨_, _, rfl, rfl, ?_, _, rfl, ?_, ⟨sp, ?_, ?_, rfl, a1, .un, rfl⟩, ?_, ?_⟩
    · rw [List.length_map, List.length_range, List.length_map]
      exact Nat.le_trans (show T.c.ins + (ownN T.c).length ≤ 200 by omega) (by decide)
    · rw [List.map_append]
    · rw [List.length_append, List.length_range]
      simp only [List.length_nil] at hsl
      omega
    · rintro s (⟨b, rfl, hb⟩ | ⟨p, rfl, h1, h2⟩)
      · exact hcov _ ⟨b, rfl, hb, by simp⟩
      · exact absurd h1 h2
    · rintro pre p r Ω' δ' hx ⟨sp, hsl, hcov, rfl, a1, a2, rfl⟩
      have hm : HasT P w CT CS (Ts T sp hs) (Wd.sym S H (adr (tdC P w CT CS CH T)) (tdC P w CT CS CH (Ts T sp hs))) := has_tdn
      rw [List.length_cons] at hsl
      refine ⟨_, gs_name, ?_⟩
      refine se_seq (se_nputC (ee_tup (ea_cons (ee_lit (ea_cons (ee_dat rfl (ea_nil ⟨[_, _], rfl, (by show 2 ≤ sizeLine; decide), ee_f (ns := nsT) (j := 5) (by decide) (ee_raw rfl ⟨T.a, CT, _, _, rfl, hm.h0, kt.cls, kt.spots, rfl, (fun i z => nomatch z), ee_tup (ea_cons (ee_str (ea_cons (ee_dat rfl (ea_nil ⟨[_, _], rfl, (by show 2 ≤ sizeLine; decide), S, H, _, tdC P w CT CS CH (Ts T sp hs), 6, _, _, sp, kS (.pl p), rfl, rfl, rfl, rfl, congrArg Rs.dat (enS_k (.pl p)), kS_depth _, sz1000 (by omega), ?_⟩)))))⟩)⟩)))))))
      have hm2 : HasT P w CT CS (Ts T (putD sp (.tup (kS (.pl p))) (.tuple [nI 0, nI p])) hs) (Wd.sym S H (adr (tdC P w CT CS CH T)) (tdC P w CT CS CH (Ts T (putD sp (.tup (kS (.pl p))) (.tuple [nI 0, nI p])) hs))) := has_tdn
      have hpl := putD_len sp (.tup (kS (.pl p))) (.tuple [nI 0, nI p])
      have hq : ∀ t : Sn, ((∃ b, t = Sn.bit b ∧ b < 2) ∨ ∃ q, t = Sn.pl q ∧ (q ∈ List.range T.c.ins ++ ownN T.c) ∧ q ∉ r) → t = Sn.pl p ∨ ((∃ b, t = Sn.bit b ∧ b < 2) ∨ ∃ q, t = Sn.pl q ∧ (q ∈ List.range T.c.ins ++ ownN T.c) ∧ q ∉ p :: r) := by
        rintro t (h | ⟨q, rfl, h1, h2⟩)
        · exact .inr (.inl h)
        · by_cases e : q = p
          · rw [e]
            exact .inl rfl
          · exact .inr (.inr ⟨q, rfl, h1, fun z => by
              rcases List.mem_cons.mp z with z | z
              · exact e z
              · exact h2 z⟩)
      have efr : ∀ x, (Ts T x hs).fresh = (mkN T.c).fr := fun _ => hf
      refine se_if (et_B (ee_nin (ee_tup (ea_cons (ee_str (ea_cons (ee_dat rfl (ea_nil ⟨[_, _], rfl, (by show 2 ≤ sizeLine; decide), ee_f (ns := nsT) (j := 4) (by decide) (ee_raw rfl ⟨T.a, CT, _, _, rfl, hm2.h0, kt.cls, kt.fresh, rfl, (fun i z => nomatch z), kvN T.fresh, kS (.pl p), hm2.hf, congrArg Rs.dat (enS_k (.pl p)), kS_depth _, _, rfl, fun hb => ?_, fun hb => ?_⟩)⟩))))))))
      · rw [if_neg Bool.false_ne_true, lookD_kvN, hf, Option.isSome_map] at hb
        obtain ⟨n, hn⟩ := Option.isSome_iff_exists.mp hb
        refine se_nputC (ee_tup (ea_cons (ee_lit (ea_cons (ee_nget (ee_f (ns := nsT) (j := 4) (by decide) (ee_raw rfl ⟨T.a, CT, _, _, rfl, hm2.h0, kt.cls, kt.fresh, rfl, (fun i z => nomatch z), ee_tup (ea_cons (ee_str (ea_cons (ee_dat rfl (ea_nil ⟨[_, _], rfl, (by show 2 ≤ sizeLine; decide), kvN T.fresh, kS (.pl p), nI n, hm2.hf, congrArg Rs.dat (enS_k (.pl p)), kS_depth _, by rw [lookD_kvN, hf, hn]; rfl, ea_nil ⟨[_, _], rfl, (by show 2 ≤ sizeLine; decide), ee_f (ns := nsT) (j := 5) (by decide) (ee_raw rfl ⟨T.a, CT, _, _, rfl, hm2.h0, kt.cls, kt.spots, rfl, (fun i z => nomatch z), ee_tup (ea_cons (ee_str (ea_cons (ee_dat rfl (ea_nil ⟨[_, _], rfl, (by show 2 ≤ sizeLine; decide), S, H, _, tdC P w CT CS CH (Ts T (putD sp (.tup (kS (.pl p))) (.tuple [nI 0, nI p])) hs), 6, _, _, putD sp (.tup (kS (.pl p))) (.tuple [nI 0, nI p]), kS (.pl p), rfl, rfl, rfl, rfl, congrArg Rs.dat (enS_k (.pl p)), kS_depth _, sz1000 (by omega), ?_⟩)))))⟩)⟩⟩)))))⟩)))))))
        have hpl2 := putD_len (putD sp (.tup (kS (.pl p))) (.tuple [nI 0, nI p])) (.tup (kS (.pl p))) (.tuple [nI 1, nI n])
        exact ⟨_, by omega, hcov.put ⟨1, n, rfl, fun z => by cases z⟩ (look_put2 _ _ _ _) hq, rfl, a1, .dat (nI p), rfl⟩
      · rw [if_neg Bool.false_ne_true, lookD_kvN, hf, Option.isSome_map] at hb
        have hn : lookL (mkN T.c).fr (.pl p) = none := by simpa using hb
        exact se_next ⟨_, by omega, hcov.put ⟨0, p, rfl, fun _ => ⟨rfl, hn⟩⟩ (look_put _ _ _) hq, rfl, a1, .dat (nI p), rfl⟩
    rintro Ω' δ' ⟨sp, hsl, hcov, rfl, a1, a2, rfl⟩
    have hm : HasT P w CT CS (Ts T sp hs) (Wd.sym S H (adr (tdC P w CT CS CH T)) (tdC P w CT CS CH (Ts T sp hs))) := has_tdn
    refine se_forX (sensN T.c).left (fun e => nI e.1) (fun r Ω' δ' => ∃ pre sp hs, (sensN T.c).left = pre ++ r ∧ sp.length ≤ 450 + pre.length ∧ hs.length ≤ 2 + pre.length ∧ Cov (mkN T.c).fr sp (fun s => RootS T.c (sensN T.c) s ∧ ∀ q g, s = .pl q → (q, g) ∈ (sensN T.c).left → (q, g) ∈ pre) ∧ Ω' = Wd.sym S H (adr (tdC P w CT CS CH T)) (tdC P w CT CS CH (Ts T sp hs)) ∧ ∃ a1 a2 a3 a4, δ' = [.raw (.ref T.a), a1, a2, a3, a4, .un]) (es_list (ee_new (en_cb (ea_cons (ee_left ks (ee_f (ns := nsT) (j := 1) (by decide) (ee_raw rfl ⟨T.a, CT, _, _, rfl, hm.h0, kt.cls, kt.senses, rfl, (fun i z => nomatch z), T.s, T.t, T.l, T.n, sensN T.c, rfl, hm.hs, ea_nil (cn_sortedDI (kvs := (sensN T.c).left.map enL) (ks := (sensN T.c).left.map fun e => (e.1 : Int)) hm.hs.h2 ?_ ?_ ?_ ⟨_, rfl, ?_, ⟨[], sp, hs, rfl, by omega, by omega, ?_, rfl, a1, a2, .un, .un, rfl⟩, ?_, ?_⟩)⟩)))))))
    · rw [List.map_map]
      rfl
    · rw [List.length_map]
      omega
    · refine List.pairwise_map.mpr (List.Pairwise.imp (fun {a b} (h : a.1 < b.1) => ?_) hzi.asc)
      omega
    · rw [List.map_map]
      rfl
    · rintro s ⟨hr, hp⟩
      refine hcov s ?_
      cases s with
      | bit b => exact .inl ⟨b, rfl, hr⟩
      | pl q =>
        have hr : RootP T.c (sensN T.c) q := hr
        refine .inr ⟨q, rfl, ?_, by simp⟩
        by_cases h1 : q < T.c.ins
        · exact List.mem_append_left _ (List.mem_range.mpr h1)
        · by_cases h2 : q < T.c.first
          · refine List.mem_append_right _ ?_
            unfold ownN
            simp only [List.mem_filter, List.mem_map, List.mem_range, decide_eq_true_eq]
            exact ⟨⟨q - T.c.ins, by omega, by omega⟩, hr.say⟩
          · obtain ⟨g, hg⟩ := hr.left (by omega)
            exact absurd (hp q g rfl (get_mem hg)) (by simp)
    · rintro - e r Ω' δ' - ⟨pre, sp, hs, hl, hsl, hhl, hcov, rfl, a1, a2, a3, a4, rfl⟩
      have hm : HasT P w CT CS (Ts T sp hs) (Wd.sym S H (adr (tdC P w CT CS CH T)) (tdC P w CT CS CH (Ts T sp hs))) := has_tdn
      have hh : HasH CH (Ts T sp hs).m (Wd.sym S H (adr (tdC P w CT CS CH T)) (tdC P w CT CS CH (Ts T sp hs))) := has_tdnH
      have hpl : pre.length < 60 := by
        rw [hl, List.length_append, List.length_cons] at hll
        omega
      have hl2 : (sensN T.c).left = (pre ++ [e]) ++ r := by rw [hl, List.append_assoc]; rfl
      have hem : (e.1, e.2) ∈ (sensN T.c).left := by rw [hl]; simp
      have hge : (sensN T.c).get e.1 = some e.2 := get_of hzi.asc hem
      have hq : ∀ t, (RootS T.c (sensN T.c) t ∧ ∀ q g, t = .pl q → (q, g) ∈ (sensN T.c).left → (q, g) ∈ pre ++ [e]) → t = .pl e.1 ∨ (RootS T.c (sensN T.c) t ∧ ∀ q g, t = .pl q → (q, g) ∈ (sensN T.c).left → (q, g) ∈ pre) := by
        rintro t ⟨h1, h2⟩
        by_cases e3 : t = .pl e.1
        · exact .inl e3
        · refine .inr ⟨h1, fun q g hq hg => ?_⟩
          rcases List.mem_append.mp (h2 q g hq hg) with z | z
          · exact z
          · have z := List.mem_singleton.mp z
            exact absurd (by rw [hq, ← z]) e3
      have hlen1 : (pre ++ [e]).length = pre.length + 1 := by rw [List.length_append]; rfl
      refine ⟨_, gs_name, ?_⟩
      refine se_if (et_B (ee_nin (ee_tup (ea_cons (ee_str (ea_cons (ee_dat rfl (ea_nil ⟨[_, _], rfl, (by show 2 ≤ sizeLine; decide), ee_f (ns := nsT) (j := 4) (by decide) (ee_raw rfl ⟨T.a, CT, _, _, rfl, hm.h0, kt.cls, kt.fresh, rfl, (fun i z => nomatch z), kvN T.fresh, kS (.pl e.1), hm.hf, congrArg Rs.dat (enS_k (.pl e.1)), kS_depth _, _, rfl, fun hb => ?_, fun hb => ?_⟩)⟩))))))))
      · rw [if_neg Bool.false_ne_true, lookD_kvN, hf, Option.isSome_map] at hb
        obtain ⟨n, hn⟩ := Option.isSome_iff_exists.mp hb
        refine se_nputC (ee_tup (ea_cons (ee_lit (ea_cons (ee_nget (ee_f (ns := nsT) (j := 4) (by decide) (ee_raw rfl ⟨T.a, CT, _, _, rfl, hm.h0, kt.cls, kt.fresh, rfl, (fun i z => nomatch z), ee_tup (ea_cons (ee_str (ea_cons (ee_dat rfl (ea_nil ⟨[_, _], rfl, (by show 2 ≤ sizeLine; decide), kvN T.fresh, kS (.pl e.1), nI n, hm.hf, congrArg Rs.dat (enS_k (.pl e.1)), kS_depth _, by rw [lookD_kvN, hf, hn]; rfl, ea_nil ⟨[_, _], rfl, (by show 2 ≤ sizeLine; decide), ee_f (ns := nsT) (j := 5) (by decide) (ee_raw rfl ⟨T.a, CT, _, _, rfl, hm.h0, kt.cls, kt.spots, rfl, (fun i z => nomatch z), ee_tup (ea_cons (ee_str (ea_cons (ee_dat rfl (ea_nil ⟨[_, _], rfl, (by show 2 ≤ sizeLine; decide), S, H, _, tdC P w CT CS CH (Ts T sp hs), 6, _, _, sp, kS (.pl e.1), rfl, rfl, rfl, rfl, congrArg Rs.dat (enS_k (.pl e.1)), kS_depth _, sz1000 (by omega), ?_⟩)))))⟩)⟩⟩)))))⟩)))))))
        have hpl2 := putD_len sp (.tup (kS (.pl e.1))) (.tuple [nI 1, nI n])
        exact ⟨pre ++ [e], _, hs, hl2, by omega, by omega, hcov.put ⟨1, n, rfl, fun z => by cases z⟩ (look_put _ _ _) hq, rfl, a1, .dat (nI e.1), a3, a4, rfl⟩
      · refine se_seq (se_asg (ee_leftAt ks (ee_f (ns := nsT) (j := 1) (by decide) (ee_raw rfl ⟨T.a, CT, _, _, rfl, hm.h0, kt.cls, kt.senses, rfl, (fun i z => nomatch z), T.s, T.t, T.l, T.n, sensN T.c, rfl, hm.hs, ee_dat rfl ⟨e.1, e.2, rfl, rfl, hge, _, _, rfl, gs_tup2, ?_⟩⟩))))
        have lo := hzi.left _ hem
        have hgo : ∀ o ∈ e.2.2, ∃ d, lookD sp (.tup (kS (.pl o))) = some d := fun o ho => by
          obtain ⟨d, hd, _⟩ := hcov (.pl o) ⟨(lo.root o ho).1, fun q g hq hg => by
            injection hq with hq
            subst hq
            have asc := hzi.asc
            rw [hl] at hg asc
            rcases List.mem_append.mp hg with hg | hg
            · exact hg
            · exfalso
              have h3 := (lo.root o ho).2
              rw [List.pairwise_append] at asc
              rcases List.mem_cons.mp hg with e2 | hg
              · rw [← e2] at h3
                exact Nat.lt_irrefl _ h3
              · have := List.rel_of_pairwise_cons asc.2.1 hg
                have : e.1 < o := this
                have h3 : o < e.1 := h3
                omega⟩
          exact ⟨d, hd⟩
        refine se_nputC (ee_methG (hr := fun i r cs hp j => by rw [hp.1]; exact fun z => nomatch z) (ee_f (ns := nsT) (j := 3) (by decide) (ee_raw rfl ⟨T.a, CT, _, _, rfl, hm.h0, kt.cls, kt.sheet, rfl, (fun i z => nomatch z), T.m.a, rfl, mth_of hh.h3 (by decide), ea_cons (ee_dat rfl (ea_cons (ee_new (en_mapX e.2.2 nI (fun o => (lookD sp (.tup (kS (.pl o)))).getD .none) (es_tup (ee_dat rfl ⟨_, rfl, rfl, rfl, ?_, ?_, ?_⟩))))))⟩)))
        · exact Nat.lt_of_le_of_lt lo.len (by decide)
        · intro o ho
          obtain ⟨d, hd⟩ := hgo o ho
          rw [hd]
          exact ⟨_, gs_name, rfl, ee_nget (ee_f (ns := nsT) (j := 5) (by decide) (ee_raw rfl ⟨T.a, CT, _, _, rfl, hm.h0, kt.cls, kt.spots, rfl, (fun i z => nomatch z), ee_tup (ea_cons (ee_str (ea_cons (ee_dat rfl (ea_nil ⟨[_, _], rfl, (by show 2 ≤ sizeLine; decide), sp, kS (.pl o), d, hm.hp, congrArg Rs.dat (enS_k (.pl o)), kS_depth _, hd, rfl, rfl, rfl⟩)))))⟩))⟩
        refine ea_nil ⟨⟨(Ts T sp hs).m, e.2.1, e.2.2.map fun o => (lookD sp (.tup (kS (.pl o)))).getD .none, true⟩, S, H, _, tdR P w CT CS (Ts T sp hs), rfl, rfl, ?_, fun _ _ _ _ => ?_, ?_⟩
        · intro r' hr' j
          simp at hr'
          rcases hr' with rfl | rfl | rfl <;> exact fun z => nomatch z
        · show hs.length ≤ 999
          omega
        rintro r' cs - ⟨rfl, rfl⟩
        dsimp only
        generalize hrow : PyData.tuple [nI e.2.1, PyData.tuple (e.2.2.map fun o => (lookD sp (.tup (kS (.pl o)))).getD .none)] = row
        have hm2 : HasT P w CT CS (Ts T sp (hs ++ [row])) (Wd.sym S H (adr (tdC P w CT CS CH T)) (tdC P w CT CS CH (Ts T sp (hs ++ [row])))) := has_tdn
        refine ee_f (ns := nsT) (j := 5) (by decide) (ee_raw rfl ⟨T.a, CT, _, _, rfl, hm2.h0, kt.cls, kt.spots, rfl, (fun i z => nomatch z), ee_tup (ea_cons (ee_str (ea_cons (ee_dat rfl (ea_nil ⟨[_, _], rfl, (by show 2 ≤ sizeLine; decide), S, H, _, tdC P w CT CS CH (Ts T sp (hs ++ [row])), 6, _, _, sp, kS (.pl e.1), rfl, rfl, rfl, rfl, congrArg Rs.dat (enS_k (.pl e.1)), kS_depth _, sz1000 (by omega), ?_⟩)))))⟩)
        have hpl2 := putD_len sp (.tup (kS (.pl e.1))) (.tuple [nI 2, nI hs.length])
        refine ⟨pre ++ [e], _, hs ++ [row], hl2, by omega, ?_, hcov.put ⟨2, hs.length, rfl, fun z => by cases z⟩ (look_put _ _ _) hq, rfl, a1, .dat (nI e.1), _, _, rfl⟩
        rw [List.length_append, List.length_singleton]
        omega
    rintro Ω' δ' ⟨pre, sp, hs, hl, hsl, hhl, hcov, rfl, a1, a2, a3, a4, rfl⟩
    rw [List.append_nil] at hl
    exact ⟨_, rfl, rfl, sp, hs, fun s hr => hcov s ⟨hr, fun q g _ hg => by rw [← hl]; exact hg⟩, by rw [← hl] at hhl; omega, rfl⟩

end
end G
set_option Elab.async false
set_option linter.all false
set_option maxRecDepth 100000
set_option maxHeartbeats 4000000
set_option autoImplicit false
namespace G
open PySem PySem.Spec PyProof.Rows L2 D M
local macro_rules | `(tactic| walk_at "d1") => `(tactic| first
  | (with_reducible refine se_seq ?_)
  | (with_reducible refine se_next ?_)
  | (with_reducible refine se_set ?_)
  | (with_reducible refine se_retD ?_)
  | (with_reducible refine se_if ?_)
  | (with_reducible refine ee_lit ?_)
  | (with_reducible refine ee_int ?_)
  | (with_reducible refine ee_str ?_)
  | (with_reducible refine ee_bl ?_)
  | (with_reducible refine ee_non ?_)
  | (with_reducible refine ee_op ?_)
  | (with_reducible refine ee_tup ?_)
  | (with_reducible refine ee_cb ?_)
  | (with_reducible refine et_test ?_)
  | (with_reducible refine ea_nil ?_)
  | (with_reducible refine ea_cons ?_)
  | ((with_reducible refine' ee_dat ?e ?_); (case e => rfl))
  | ((with_reducible refine' ee_own ?e ?_); (case e => rfl))
  | ((with_reducible refine' ee_raw ?e ?_); (case e => rfl))
  | ((with_reducible refine' n_and ?ha ?hb ?_); (case ha => rfl); (case hb => rfl))
  | ((with_reducible refine' n_or ?ha ?hb ?_); (case ha => rfl); (case hb => rfl))
  | ((with_reducible refine' n_xor ?ha ?hb ?_); (case ha => rfl); (case hb => rfl))
  | ((with_reducible refine' n_add ?ha ?hb ?_); (case ha => rfl); (case hb => rfl))
  | ((with_reducible refine' n_sub ?ha ?hb ?hc ?_); (case ha => rfl); (case hb => rfl); (case hc => first | omega | assumption | decide))
  | ((with_reducible refine' n_mul ?ha ?hb ?hc ?_); (case ha => rfl); (case hb => rfl); (case hc => first | omega | assumption | decide))
  | ((with_reducible refine' n_shr ?ha ?hb ?_); (case ha => rfl); (case hb => rfl))
  | ((with_reducible refine' n_shl ?ha ?hb ?hc ?hd ?_); (case ha => rfl); (case hb => rfl); (case hc => first | omega | assumption | decide); (case hd => first | omega | assumption | decide))
  | ((with_reducible refine' n_lt ?ha ?hb ?_); (case ha => rfl); (case hb => rfl))
  | ((with_reducible refine' n_gt ?ha ?hb ?_); (case ha => rfl); (case hb => rfl))
  | ((with_reducible refine' n_eq ?ha ?hb ?_); (case ha => rfl); (case hb => rfl))
  | ((with_reducible refine' n_ne ?ha ?hb ?_); (case ha => rfl); (case hb => rfl))
  | (with_reducible refine ⟨_, rfl, ?_⟩)
  | (with_reducible refine ⟨_, _, rfl, ?_⟩)
  | (with_reducible refine ⟨_, _, _, rfl, ?_⟩)
  | (with_reducible refine ⟨_, _, _, _, rfl, ?_⟩)
  | exact ⟨rfl, _, rfl, rfl⟩)
local macro_rules | `(tactic| walk_at "d") => `(tactic| (repeat (walk_at "d1")))
section
variable {P : Program} {w : World} {K : PySem.W.Frag} {mg : Str → Option Value} {base : Heap}
theorem dkGet_put (kvs : List (Int × PyData)) (k k' : Int) (d : PyData) : dkGet (dkPut kvs k d) k' = if k' = k then some d else dkGet kvs k' := by
  unfold dkPut
  by_cases h : (kvs.any fun e => decide (e.1 = k)) = true
  · rw [if_pos h]
    induction kvs with
    | nil => simp at h
    | cons e r ih =>
      by_cases he : e.1 = k
      · by_cases hk : k' = k
        · subst hk
          rw [if_pos rfl]
          simp [dkGet, he]
        · rw [if_neg hk]
          have h1 : ¬ e.1 = k' := fun z => hk (z.symm.trans he)
          by_cases hr : (r.any fun e => decide (e.1 = k)) = true
          · have := ih hr
            rw [if_neg hk] at this
            simp only [dkGet, List.map_cons, if_pos he, List.find?_cons, decide_eq_false h1] at this ⊢
            exact this
          · have e2 : r.map (fun e => if e.1 = k then (e.1, d) else e) = r := by
              refine (List.map_congr_left (g := id) fun x hx => ?_).trans (List.map_id r)
              rw [if_neg fun z => hr (List.any_eq_true.mpr ⟨x, hx, by simpa using z⟩)]
              rfl
            rw [List.map_cons, e2, if_pos he]
            simp only [dkGet, List.find?_cons, decide_eq_false h1]
      · have hr : (r.any fun e => decide (e.1 = k)) = true := by
          rw [List.any_cons, decide_eq_false he, Bool.false_or] at h
          exact h
        have := ih hr
        rw [List.map_cons, if_neg he]
        by_cases h1 : e.1 = k'
        · have hk : ¬ k' = k := fun z => he (h1.trans z)
          rw [if_neg hk]
          simp [dkGet, h1]
        · simp only [dkGet, List.find?_cons, decide_eq_false h1] at this ⊢
          exact this
  · rw [if_neg h]
    have hn : ∀ e ∈ kvs, ¬ e.1 = k := fun e he z => h (List.any_eq_true.mpr ⟨e, he, by simpa using z⟩)
    unfold dkGet
    rw [List.find?_append]
    by_cases hk : k' = k
    · subst hk
      rw [if_pos rfl, List.find?_eq_none.mpr fun e he => by simpa using hn e he]
      simp
    · rw [if_neg hk]
      have h1 : ¬ k = k' := fun z => hk z.symm
      cases kvs.find? fun e => decide (e.1 = k') with
      | none => simp [h1]
      | some e => rfl
theorem dkPut_len (kvs : List (Int × PyData)) (k : Int) (d : PyData) : (dkPut kvs k d).length ≤ kvs.length + 1 := by
  unfold dkPut
  split
  · rw [List.length_map]; omega
  · rw [List.length_append]; exact Nat.le_refl _
/-- the lines so far, and the held rows -/
structure LnOk (c : Circ) (ln : List (Int × PyData)) (ks : List PyData) : Prop where
  th : ∀ (p : Nat) (d : PyData), dkGet ln (p : Int) = some d → IsTh d
  held : ∀ (p : Nat) (d : PyData), c.ins ≤ p → p < c.first → dkGet ln (p : Int) = some d → ∃ n, d = .tuple [.str "held", nI n] ∧ n < ks.length
theorem LnOk.put {c : Circ} {ln : List (Int × PyData)} {ks ks' : List PyData} (h : LnOk c ln ks) {p : Nat} {d : PyData} (hk : ks.length ≤ ks'.length) (h1 : IsTh d) (h2 : c.ins ≤ p → p < c.first → ∃ n, d = .tuple [.str "held", nI n] ∧ n < ks'.length) : LnOk c (dkPut ln (p : Int) d) ks' where
  th := fun q x hq => by
    rw [dkGet_put] at hq
    by_cases e : (q : Int) = (p : Int)
    · rw [if_pos e] at hq
      cases hq
      exact h1
    · rw [if_neg e] at hq
      exact h.th q x hq
  held := fun q x a b hq => by
    rw [dkGet_put] at hq
    by_cases e : (q : Int) = (p : Int)
    · rw [if_pos e] at hq
      cases hq
      have : q = p := by omega
      subst this
      exact h2 a b
    · rw [if_neg e] at hq
      obtain ⟨n, y1, y2⟩ := h.held q x a b hq
      exact ⟨n, y1, by omega⟩
/-- which places have lines -/
def LnAll (c : Circ) (sp : List (NK × PyData)) (ln : List (Int × PyData)) (n : Nat) : Prop := ∀ p : Nat, p < n → (p < c.ins ∨ c.first ≤ p ∨ lookD sp (.tup (kS ((sensN c).say p))) ≠ some (.tuple [nI 0, nI p])) → (dkGet ln (p : Int)).isSome = true
theorem LnAll.put {c : Circ} {sp : List (NK × PyData)} {ln : List (Int × PyData)} {n : Nat} (h : LnAll c sp ln n) (d : PyData) : LnAll c sp (dkPut ln (n : Int) d) (n + 1) := fun p hp hq => by
  rw [dkGet_put]
  by_cases e : (p : Int) = (n : Int)
  · rw [if_pos e]
    rfl
  · rw [if_neg e]
    exact h p (by omega) hq
abbrev Tl (T : Tdy) (ln : List (Int × PyData)) (ks cs : List PyData) : Tdy := { T with lines := ln, m := { T.m with ks := ks, cs := cs } }
theorem sp_ok {T : Tdy} (hc : COk T.c) (hcov : Cov (mkN T.c).fr T.spots (RootS T.c (sensN T.c))) {ln : List (Int × PyData)} {ks cs : List PyData} (h : LnOk T.c ln ks) : TOk (Tl T ln ks cs) := ⟨hc, fun s hs => by
  obtain ⟨d, h1, a, b, h2, _⟩ := hcov s hs
  exact ⟨a, b, by rw [← h2]; exact h1⟩, h.th⟩
theorem shK_spot (a b : Nat) : ShK 1 (.tuple [nI a, nI b]) := shK_pair (shK_int _ _) (shK_int _ _)
theorem eqv_spot (a b a' b' : Nat) : PyData.eqv (.tuple [nI a, nI b]) (.tuple [nI a', nI b']) = (decide (a = a') && decide (b = b')) := by
  rw [eqv_tup, eqvAll_cons, eqvAll_cons, eqvAll_nil, eqv_nI, eqv_nI, Bool.and_true]
theorem lnok_nil (c : Circ) (ks : List PyData) : LnOk c [] ks := ⟨(fun _ _ z => nomatch z), (fun _ _ _ _ z => nomatch z)⟩
theorem LnOk.grow {c : Circ} {ln : List (Int × PyData)} {ks ks' : List PyData} (h : LnOk c ln ks) (hk : ks.length ≤ ks'.length) : LnOk c ln ks' := ⟨h.th, fun p d a b e => let ⟨n, y1, y2⟩ := h.held p d a b e; ⟨n, y1, Nat.lt_of_lt_of_le y2 hk⟩⟩
theorem LnAll.skip {c : Circ} {sp : List (NK × PyData)} {ln : List (Int × PyData)} {n : Nat} (h : LnAll c sp ln n) (h1 : c.ins ≤ n) (h2 : n < c.first) (h3 : lookD sp (.tup (kS ((sensN c).say n))) = some (.tuple [nI 0, nI n])) : LnAll c sp ln (n + 1) := fun p hp hq => by
  by_cases e : p = n
  · subst e
    rcases hq with z | z | z
    · omega
    · omega
    · exact absurd h3 z
  · exact h p (by omega) hq
structure LinesP (T : Tdy) (ln : List (Int × PyData)) (ks cs : List PyData) : Prop where
  ok : LnOk T.c ln ks
  all : LnAll T.c T.spots ln (totN T.c)
  kr : ∀ r ∈ ks, IsRow r
  cr : ∀ r ∈ cs, IsRow r
  kl : ks.length ≤ 100
  cl : cs.length ≤ 100
theorem sz2000 {n : Nat} (h : n ≤ 2000) : n < sizeLine := Nat.lt_of_le_of_lt h (by decide)
theorem row4 {a b : PyData} {fs gs : List PyData} (h1 : fs.length ≤ 100) (h2 : gs.length ≤ 100) (h3 : ∀ x ∈ fs, IsTh x) (h4 : ∀ x ∈ gs, IsTh x) : IsRow (.tuple [a, b, .list fs, .list gs]) := ⟨a, b, fs, gs, rfl, h1, h2, h3, h4⟩
theorem app_row {rs : List PyData} {r : PyData} (h : ∀ x ∈ rs, IsRow x) (k : IsRow r) : ∀ x ∈ rs ++ [r], IsRow x := fun x hx => by
  rcases List.mem_append.mp hx with hx | hx
  · exact h x hx
  · rw [List.mem_singleton.mp hx]
    exact k
abbrev sp_Tidying_lay_lines (P : Program) (w : World) (CT CS CH : Addr) : Sp := spG (fun T : Tdy => [.raw (.ref T.a)]) (fun T _ _ => COk T.c ∧ Cov (mkN T.c).fr T.spots (RootS T.c (sensN T.c)) ∧ T.lines = [] ∧ T.m.ks = [] ∧ T.m.cs = []) (fun T => tdC P w CT CS CH T) (fun T r cs => r = .dat .none ∧ ∃ ln ks cl, LinesP T ln ks cl ∧ cs = tdC P w CT CS CH (Tl T ln ks cl))
theorem ee_ties {Ω : Wd} {δ : List AS} {R : KR} {te : TE} {ta : TA} {E : XK} {CT CS : Addr} (h : EE P w te Ω δ fun r Ω1 δ1 => ∃ T, r = .raw (.ref T.a) ∧ HasT P w CT CS T Ω1 ∧ TOk T ∧ EA P w ta Ω1 δ1 fun rs Ω2 δ2 => Ω2 = Ω1 ∧ ∃ (ps : List Nat) (pd sh : PyData), rs = [.dat pd, .dat sh] ∧ (∀ p ∈ ps, p < totN T.c) ∧ ps.length ≤ 10 ∧ IsSeqD (ps.map nI) pd ∧ SpotP sh ∧ ∀ d, TieP 100 d → R (.dat d) Ω2 δ2) : EE P w (tMeth CT "ties" (sp_Tidying_ties P w CT CS) [] E te ta) Ω δ R :=
  ee_methR (h.imp fun r Ω1 δ1 ⟨T, e, hs, hk, k⟩ => ⟨T.a, e, mth_of hs.h0 (by decide), EA.imp k fun rs Ω2 δ2 ⟨e2, ps, pd, sh, hrs, a1, a2, a3, a4, z⟩ => ⟨⟨T, ps, pd, sh⟩, by rw [hrs], by simp, fun S H e3 hw => ⟨hs.now S H e3 (by rw [← e2]; exact hw), hk, a1, a2, a3, a4⟩, fun d' hd => z d' hd⟩⟩)

abbrev N_Tidying_lay_lines : List Str := ["self", "ins", "memories", "gates", "outs", "place", "spot", "number", "gate", "free", "given"]
theorem sc_Tidying_lay_lines : FnScope N_Tidying_lay_lines ["self"] (defScope s_Tidying_lay_lines) := ⟨rfl, rfl, rfl, by decide +kernel, rfl, by decide +kernel, by decide +kernel⟩
theorem ok_Tidying_lay_lines {k : Nat} {f : Addr} {fd : FuncData} (F : FnP K "lay_lines" "Tidying.lay_lines" s_Tidying_lay_lines f fd) (T : Fx mg) {CT CS CH : Addr} (kt : KT K CT) (kss : KS K CS) (c_Sheet_claim : CalM P w K mg base k CH "claim" ["self", "one", "other", "free", "given"] (sp_Sheet_claim CH)) (c_Sheet_hold : CalM P w K mg base k CH "hold" ["self", "one", "other"] (sp_Sheet_hold CH)) (c_Sheet_in_key : CalM P w K mg base k CH "in_key" ["self", "place"] sp_Sheet_in_key) (c_Tidying_reckoned : CalM P w K mg base k CT "reckoned" ["self", "place"] (sp_Tidying_reckoned P w CT CS)) (c_Tidying_ties : CalM P w K mg base k CT "ties" ["self", "places", "shown"] (sp_Tidying_ties P w CT CS)) (c_first_gate : Cal P w K mg base k "first_gate" ["circuit"] sp_first_gate) : FnOk P w K mg base CX0 (k + 1) f fd ["self"] (sp_Tidying_lay_lines P w CT CS CH) := by
  refine F.ok sc_Tidying_lay_lines (spG_len fun _ => rfl) (fun cdv A outer s H vs Q E hr hsp => ?_)
  refine ⟨_, PSs.nox (pss_cons (ps_asg (pe_fld (pv 0) rfl) (pg_tup rfl (pgs_cons (pg_name (i := 1) sc_Tidying_lay_lines.nd rfl (Or.inl rfl)) (pgs_cons (pg_name (i := 2) sc_Tidying_lay_lines.nd rfl (Or.inl rfl)) (pgs_cons (pg_name (i := 3) sc_Tidying_lay_lines.nd rfl (Or.inl rfl)) (pgs_cons (pg_name (i := 4) sc_Tidying_lay_lines.nd rfl (Or.inl rfl)) pgs_nil))))))
    (pss_cons (ps_for PassesOwn.never rfl (pi_range1 (by rfl) T.range (pa_cons (pv 1) pa_nil)) (pg_name (i := 5) sc_Tidying_lay_lines.nd rfl (Or.inl rfl))
    (pss_one (ps_dput (hu_of hr) (pe_fld (pv 0) rfl) (pv 5) (pe_mcal (pe_fld (pv 0) rfl) c_Sheet_in_key hr (pa_cons (pv 5) pa_nil)) rfl)))
    (pss_cons (ps_for PassesOwn.never rfl (pi_range2 (by rfl) T.range (pa_cons (pv 1) (pa_cons (pe_cal c_first_gate hr (by rfl) (pa_cons (pe_fld (pv 0) rfl) pa_nil)) pa_nil))) (pg_name (i := 5) sc_Tidying_lay_lines.nd rfl (Or.inl rfl))
    (pss_cons (ps_set (i := 6) sc_Tidying_lay_lines.nd rfl (Or.inl rfl) (pe_nget hr (pe_fld (pv 0) rfl) (pe_ix ix_list (pe_fld (pe_fld (pv 0) rfl) rfl) (pv 5) (fun _ _ => rfl)) (fun _ _ => rfl)))
    (pss_one (ps_if (pt_cmpR (op_neD hr.units) (pv 6) (pe_tup (pa_cons pe_int (pa_cons (pv 5) pa_nil))) (nomark _))
    (pss_one (ps_dput (hu_of hr) (pe_fld (pv 0) rfl) (pv 5) (pe_mcal (pe_fld (pv 0) rfl) c_Sheet_hold hr (pa_cons (pe_tup (pa_cons pe_int (pa_cons (pv 5) pa_nil))) (pa_cons (pv 6) pa_nil))) rfl))
    pss_nil))))
    (pss_one (ps_for PassesOwn.never rfl (pi_enum (by rfl) T.enumerate (pa_cons (pv 3) pa_nil)) (pg_tup rfl (pgs_cons (pg_name (i := 7) sc_Tidying_lay_lines.nd rfl (Or.inl rfl)) (pgs_cons (pg_name (i := 8) sc_Tidying_lay_lines.nd rfl (Or.inl rfl)) pgs_nil)))
    (pss_cons (ps_set (i := 5) sc_Tidying_lay_lines.nd rfl (Or.inl rfl) (pe_op op_add (pe_cal c_first_gate hr (by rfl) (pa_cons (pe_fld (pv 0) rfl) pa_nil)) (pv 7)))
    (pss_cons (ps_asg (pe_mcal (pv 0) c_Tidying_ties hr (pa_cons (pe_ix ix_tup (pv 8) pe_int (fun _ _ => rfl)) (pa_cons (pe_mcal (pv 0) c_Tidying_reckoned hr (pa_cons (pv 5) pa_nil)) pa_nil))) (pg_tup rfl (pgs_cons (pg_name (i := 9) sc_Tidying_lay_lines.nd rfl (Or.inl rfl)) (pgs_cons (pg_name (i := 10) sc_Tidying_lay_lines.nd rfl (Or.inl rfl)) pgs_nil))))
    (pss_one (ps_dput (hu_of hr) (pe_fld (pv 0) rfl) (pv 5) (pe_mcal (pe_fld (pv 0) rfl) c_Sheet_claim hr (pa_cons (pe_tup (pa_cons pe_int (pa_cons (pv 5) pa_nil))) (pa_cons (pe_nget hr (pe_fld (pv 0) rfl) (pe_ix ix_list (pe_fld (pe_fld (pv 0) rfl) rfl) (pv 5) (fun _ _ => rfl)) (fun _ _ => rfl)) (pa_cons (pv 9) (pa_cons (pv 10) pa_nil))))) rfl))))))))), ?_⟩
  refine run_spG (P := P) (w := w) hsp ?_
  rintro T S H ⟨hc, hcov, hl0, hk0, hc0⟩
  have hins := hc.ins
  have hms := hc.mems
  have hgs := hc.gates
  have hfe := first_eq T.c
  have hzi := sens_inv hc
  have e1 : Tl T T.lines T.m.ks T.m.cs = T := rfl
  rw [hl0, hk0, hc0] at e1
  have e0 : tdC P w CT CS CH T = tdC P w CT CS CH (Tl T [] [] []) := congrArg (tdC P w CT CS CH) e1.symm
  have eΩ : Wd.sym S H (adr (tdC P w CT CS CH T)) (tdC P w CT CS CH T) = Wd.sym S H (adr (tdC P w CT CS CH T)) (tdC P w CT CS CH (Tl T [] [] [])) := congrArg (Wd.sym S H (adr (tdC P w CT CS CH T))) e0
  rw [eΩ]
  have hm : HasT P w CT CS (Tl T [] [] []) (Wd.sym S H (adr (tdC P w CT CS CH T)) (tdC P w CT CS CH (Tl T [] [] []))) := has_tdn
  refine se_seq (se_asg (ee_f (ns := nsT) (j := 0) (by decide) (ee_raw rfl ⟨T.a, CT, _, _, rfl, hm.h0, kt.cls, kt.circuit, rfl, (fun i z => nomatch z), _, _, rfl, gs_tup4, ?_⟩)))
  refine se_seq (se_forX (List.range T.c.ins) nI (fun r Ω' δ' => ∃ n ln, n + r.length = T.c.ins ∧ r = (List.range r.length).map (fun i => n + i) ∧ ln.length ≤ n ∧ LnOk T.c ln [] ∧ LnAll T.c T.spots ln n ∧ Ω' = Wd.sym S H (adr (tdC P w CT CS CH T)) (tdC P w CT CS CH (Tl T ln [] [])) ∧ ∃ a1, δ' = [.raw (.ref T.a), .dat (nI T.c.ins), .dat (.list (T.c.mems.map enM)), .dat (.list (T.c.gates.map enG)), .dat (nL T.c.outs), a1, .un, .un, .un, .un, .un]) (es_range1 (ea_cons (ee_dat rfl (ea_nil ⟨T.c.ins, rfl, by omega, rangeD0 _, ⟨0, [], by rw [List.length_range]; omega, ?_, Nat.le_refl _, lnok_nil _ _, fun p hp => absurd hp (Nat.not_lt_zero _), rfl, .un, rfl⟩, ?_, ?_⟩)))))
  · rw [List.length_range]
    simp
  · rintro pre p r Ω' δ' hx ⟨n, ln, hn, hr, hll, hlo, hla, rfl, a1, rfl⟩
    have hm : HasT P w CT CS (Tl T ln [] []) (Wd.sym S H (adr (tdC P w CT CS CH T)) (tdC P w CT CS CH (Tl T ln [] []))) := has_tdn
    have hh : HasH CH (Tl T ln [] []).m (Wd.sym S H (adr (tdC P w CT CS CH T)) (tdC P w CT CS CH (Tl T ln [] []))) := has_tdnH
    rw [List.length_cons] at hn hr
    rw [List.range_succ_eq_map, List.map_cons, List.map_map] at hr
    injection hr with hp hr
    have hp : p = n := by omega
    subst hp
    refine ⟨_, gs_name, ?_⟩
    refine se_dputC (ee_methR (ee_f (ns := nsT) (j := 3) (by decide) (ee_raw rfl ⟨T.a, CT, _, _, rfl, hm.h0, kt.cls, kt.sheet, rfl, (fun i z => nomatch z), T.m.a, rfl, mth_of hh.h3 (by decide), ea_cons (ee_dat rfl (ea_nil ⟨⟨T.m.a, p⟩, rfl, by simp, fun _ _ _ _ => trivial, fun d hd => ?_⟩))⟩)))
    subst hd
    refine ee_f (ns := nsT) (j := 6) (by decide) (ee_raw rfl ⟨T.a, CT, _, _, rfl, hm.h0, kt.cls, kt.lines, rfl, (fun i z => nomatch z), ee_dat rfl ⟨S, H, _, tdC P w CT CS CH (Tl T ln [] []), 7, _, _, ln, _, rfl, rfl, rfl, rfl, rfl, sz2000 (by omega), ?_⟩⟩)
    have hdl := dkPut_len ln (p : Int) (.tuple [.str "in", nI p])
    refine ⟨p + 1, _, by omega, ?_, by omega, hlo.put (Nat.le_refl _) ⟨.str "in", p, rfl, shK_str 0 sh_in⟩ fun z1 z2 => by omega, hla.put _, rfl, .dat (nI p), rfl⟩
    conv => lhs; rw [hr]
    refine List.map_congr_left fun i _ => ?_
    show p + (i + 1) = p + 1 + i
    omega
  rintro Ω' δ' ⟨n, ln, hn, -, hll, hlo, hla, rfl, a1, rfl⟩
  obtain rfl : n = T.c.ins := by simpa using hn
  have hm : HasT P w CT CS (Tl T ln [] []) (Wd.sym S H (adr (tdC P w CT CS CH T)) (tdC P w CT CS CH (Tl T ln [] []))) := has_tdn
  refine se_seq (se_forX ((List.range T.c.mems.length).map fun i => T.c.ins + i) nI (fun r Ω' δ' => ∃ n ln ks, n + r.length = T.c.first ∧ T.c.ins ≤ n ∧ r = (List.range r.length).map (fun i => n + i) ∧ ln.length ≤ n ∧ ks.length + r.length ≤ T.c.mems.length ∧ (∀ x ∈ ks, IsRow x) ∧ LnOk T.c ln ks ∧ LnAll T.c T.spots ln n ∧ Ω' = Wd.sym S H (adr (tdC P w CT CS CH T)) (tdC P w CT CS CH (Tl T ln ks [])) ∧ ∃ a1 a2, δ' = [.raw (.ref T.a), .dat (nI T.c.ins), .dat (.list (T.c.mems.map enM)), .dat (.list (T.c.gates.map enG)), .dat (nL T.c.outs), a1, a2, .un, .un, .un, .un]) (es_range2 (ea_cons (ee_dat rfl (ea_cons (ee_first_gate (ea_cons (ee_f (ns := nsT) (j := 0) (by decide) (ee_raw rfl ⟨T.a, CT, _, _, rfl, hm.h0, kt.cls, kt.circuit, rfl, (fun i z => nomatch z), ea_nil ⟨T.c, rfl, ea_nil ⟨T.c.ins, T.c.mems.length, rfl, by omega, rangeDn _ _, ⟨T.c.ins, ln, [], ?_, Nat.le_refl _, ?_, hll, ?_, fun _ z => (nomatch z), hlo, hla, rfl, a1, .un, rfl⟩, ?_, ?_⟩⟩⟩)))))))))
  · rw [List.length_map, List.length_range]
    rfl
  · rw [List.length_map, List.length_range]
  · rw [List.length_map, List.length_range]
    simp
  · rintro pre p r Ω' δ' hx ⟨n, ln, ks, hn, hin, hr, hll, hkl, hkr, hlo, hla, rfl, a1, a2, rfl⟩
    have hm : HasT P w CT CS (Tl T ln ks []) (Wd.sym S H (adr (tdC P w CT CS CH T)) (tdC P w CT CS CH (Tl T ln ks []))) := has_tdn
    have hh : HasH CH (Tl T ln ks []).m (Wd.sym S H (adr (tdC P w CT CS CH T)) (tdC P w CT CS CH (Tl T ln ks []))) := has_tdnH
    rw [List.length_cons] at hn hr hkl
    rw [List.range_succ_eq_map, List.map_cons, List.map_map] at hr
    injection hr with hp hr
    have hp : p = n := by omega
    subst hp
    have hr2 : r = (List.range r.length).map (fun i => p + 1 + i) := by
      conv => lhs; rw [hr]
      refine List.map_congr_left fun i _ => ?_
      show p + (i + 1) = p + 1 + i
      omega
    obtain ⟨hlt, hroot⟩ := told_root hc (show p < totN T.c by unfold totN; omega)
    obtain ⟨d, hd, a, b, rfl, -⟩ := hcov _ hroot
    refine ⟨_, gs_name, ?_⟩
    refine se_seq (se_set (ee_nget (ee_f (ns := nsT) (j := 5) (by decide) (ee_raw rfl ⟨T.a, CT, _, _, rfl, hm.h0, kt.cls, kt.spots, rfl, (fun i z => nomatch z), ee_op (ee_told kss (ee_f (ns := nsT) (j := 1) (by decide) (ee_raw rfl ⟨T.a, CT, _, _, rfl, hm.h0, kt.cls, kt.senses, rfl, (fun i z => nomatch z), T.s, T.t, T.l, T.n, sensN T.c, rfl, hm.hs, ee_dat rfl (o2_ixH hm.hs.h1 rfl (told_get hlt) ⟨T.spots, kS ((sensN T.c).say p), _, hm.hp, congrArg Rs.dat (enS_k _), kS_depth _, hd, _, rfl, ?_⟩)⟩)))⟩))))
    refine se_if (et_test (ee_op (ee_dat rfl (ee_tup (ea_cons (ee_lit (ea_cons (ee_dat rfl (ea_nil ⟨[_, _], rfl, (by show 2 ≤ sizeLine; decide), o2_neD ((shK_spot _ _).shaped (by decide)) ((shK_spot _ _).shaped (by decide)) ⟨_, rfl, fun hb => ?_, fun hb => ?_⟩⟩)))))))))
    · have hdl := dkPut_len ln (p : Int) (.tuple [.str "held", nI ks.length])
      refine se_dputC (ee_methG (hr := fun i r cs hp j => by rw [hp.1]; exact fun z => nomatch z) (ee_f (ns := nsT) (j := 3) (by decide) (ee_raw rfl ⟨T.a, CT, _, _, rfl, hm.h0, kt.cls, kt.sheet, rfl, (fun i z => nomatch z), T.m.a, rfl, mth_of hh.h3 (by decide), ea_cons (ee_tup (ea_cons (ee_lit (ea_cons (ee_dat rfl (ea_nil ⟨[_, _], rfl, (by show 2 ≤ sizeLine; decide), ea_cons (ee_dat rfl (ea_nil ⟨⟨(Tl T ln ks []).m, .tuple [nI 0, nI p], .tuple [nI a, nI b]⟩, S, H, _, tdR P w CT CS (Tl T ln ks []), rfl, rfl, ?_, fun _ _ _ _ => ?_, ?_⟩))⟩))))))⟩)))
      · intro r' hr' j
        simp at hr'
        rcases hr' with rfl | rfl | rfl <;> exact fun z => nomatch z
      · show ks.length ≤ 999
        omega
      rintro r' cs - ⟨rfl, rfl⟩
      dsimp only
      generalize hrow : PyData.tuple [.tuple [nI 0, nI p], .tuple [nI a, nI b], .list [], .list []] = row
      have hrw : IsRow row := by
        rw [← hrow]
        exact row4 (by simp) (by simp) (fun _ z => (nomatch z)) (fun _ z => (nomatch z))
      have hm2 : HasT P w CT CS (Tl T ln (ks ++ [row]) []) (Wd.sym S H (adr (tdC P w CT CS CH T)) (tdC P w CT CS CH (Tl T ln (ks ++ [row]) []))) := has_tdn
      refine ee_f (ns := nsT) (j := 6) (by decide) (ee_raw rfl ⟨T.a, CT, _, _, rfl, hm2.h0, kt.cls, kt.lines, rfl, (fun i z => nomatch z), ee_dat rfl ⟨S, H, _, tdC P w CT CS CH (Tl T ln (ks ++ [row]) []), 7, _, _, ln, _, rfl, rfl, rfl, rfl, rfl, sz2000 (by omega), ?_⟩⟩)
      have hk1 : (ks ++ [row]).length = ks.length + 1 := by rw [List.length_append]; rfl
      refine ⟨p + 1, _, ks ++ [row], by omega, by omega, hr2, by omega, by omega, app_row hkr hrw, hlo.put (by omega) ⟨.str "held", ks.length, rfl, shK_str 0 sh_held⟩ (fun _ _ => ⟨ks.length, rfl, by omega⟩), hla.put _, rfl, .dat (nI p), _, rfl⟩
    · have hb3 : (!PyData.eqv (.tuple [nI a, nI b]) (.tuple [nI 0, nI p])) = false := hb
      have hb2 : (decide (a = 0) && decide (b = p)) = true := by
        rw [← eqv_spot]
        cases h : PyData.eqv (.tuple [nI a, nI b]) (.tuple [nI 0, nI p]) with
        | true => rfl
        | false =>
          rw [h] at hb3
          cases hb3
      have hab : a = 0 ∧ b = p := by simpa using hb2
      obtain ⟨rfl, rfl⟩ := hab
      exact se_next ⟨b + 1, ln, ks, by omega, by omega, hr2, by omega, by omega, hkr, hlo, hla.skip hin (by omega) hd, rfl, .dat (nI b), _, rfl⟩
  rintro Ω' δ' ⟨n, ln, ks, hn, hin, -, hll, hkl, hkr, hlo, hla, rfl, a1, a2, rfl⟩
  obtain rfl : n = T.c.first := by simpa using hn
  refine se_forX T.c.gates.zipIdx (fun q => .tuple [nI q.2, enG q.1]) (fun r Ω' δ' => ∃ pre ln cl, T.c.gates.zipIdx = pre ++ r ∧ ln.length ≤ T.c.first + pre.length ∧ cl.length ≤ pre.length ∧ (∀ x ∈ cl, IsRow x) ∧ LnOk T.c ln ks ∧ LnAll T.c T.spots ln (T.c.first + pre.length) ∧ Ω' = Wd.sym S H (adr (tdC P w CT CS CH T)) (tdC P w CT CS CH (Tl T ln ks cl)) ∧ ∃ b1 b2 b3 b4 b5 b6, δ' = [.raw (.ref T.a), .dat (nI T.c.ins), .dat (.list (T.c.mems.map enM)), .dat (.list (T.c.gates.map enG)), .dat (nL T.c.outs), b1, b2, b3, b4, b5, b6]) (es_enum (ea_cons (ee_dat rfl (ea_nil ⟨_, rfl, enumD_map _ _, ⟨[], ln, [], rfl, hll, Nat.le_refl _, fun _ z => (nomatch z), hlo, hla, rfl, a1, a2, .un, .un, .un, .un, rfl⟩, ?_, ?_⟩))))
  · rintro - ⟨g, i⟩ r Ω' δ' - ⟨pre, ln, cl, hpre, hll, hcl, hcr, hlo, hla, rfl, b1, b2, b3, b4, b5, b6, rfl⟩
    have hm : HasT P w CT CS (Tl T ln ks cl) (Wd.sym S H (adr (tdC P w CT CS CH T)) (tdC P w CT CS CH (Tl T ln ks cl))) := has_tdn
    have hh : HasH CH (Tl T ln ks cl).m (Wd.sym S H (adr (tdC P w CT CS CH T)) (tdC P w CT CS CH (Tl T ln ks cl))) := has_tdnH
    have hi0 : T.c.gates.zipIdx[pre.length]? = some (g, i) := by rw [hpre, List.getElem?_append_right (Nat.le_refl _), Nat.sub_self]; rfl
    rw [List.getElem?_zipIdx] at hi0
    obtain ⟨g', hg, e⟩ := Option.map_eq_some_iff.mp hi0
    simp at e
    obtain ⟨rfl, rfl⟩ := e
    have hpl : pre.length < T.c.gates.length := (List.getElem?_eq_some_iff.mp hg).1
    obtain ⟨g1, g2, g3⟩ := hc.gate _ _ hg
    have hpre2 : T.c.gates.zipIdx = (pre ++ [(g', pre.length)]) ++ r := by rw [hpre, List.append_assoc]; rfl
    have hlen2 : (pre ++ [(g', pre.length)]).length = pre.length + 1 := by rw [List.length_append]; rfl
    obtain ⟨hlt, hroot⟩ := told_root hc (show T.c.first + pre.length < totN T.c by unfold totN; omega)
    obtain ⟨d, hd, a, b, hdd, -⟩ := hcov _ hroot
    have hok : TOk (Tl T ln ks cl) := sp_ok hc hcov hlo
    refine ⟨_, gs_tup2, ?_⟩
    refine se_seq (se_set (ee_op (ee_first_gate (ea_cons (ee_f (ns := nsT) (j := 0) (by decide) (ee_raw rfl ⟨T.a, CT, _, _, rfl, hm.h0, kt.cls, kt.circuit, rfl, (fun i z => nomatch z), ea_nil ⟨T.c, rfl, ee_dat rfl (n_add rfl rfl ⟨_, rfl, ?_⟩)⟩⟩))))))
    refine se_seq (se_asg (ee_ties (ee_raw rfl ⟨Tl T ln ks cl, rfl, hm, hok, ea_cons (ee_op (ee_dat rfl (ee_lit (n_ixT rfl rfl (ea_cons (ee_reckoned (ee_raw rfl ⟨Tl T ln ks cl, rfl, hm, hok, ea_cons (ee_dat rfl (ea_nil ⟨rfl, pre.length, g', rfl, hg, fun d1 hd1 => ea_nil ⟨rfl, g'.2, nT g'.2, d1, rfl, ?_, by omega, .inr rfl, hd1, fun d2 hd2 => ?_⟩⟩))⟩)))))))⟩)))
    · intro p hp
      have := g3 p hp
      show p < totN T.c
      unfold totN
      omega
    obtain ⟨fs, gs, rfl, f1, f2, f3, f4⟩ := hd2
    refine ⟨_, _, rfl, gs_tup2, ?_⟩
    have hdl := dkPut_len ln ((T.c.first + pre.length : Nat) : Int) (.tuple [.str "claim", nI cl.length])
    refine se_dputC (ee_methG (hr := fun i r cs hp j => by rw [hp.1]; exact fun z => nomatch z) (ee_f (ns := nsT) (j := 3) (by decide) (ee_raw rfl ⟨T.a, CT, _, _, rfl, hm.h0, kt.cls, kt.sheet, rfl, (fun i z => nomatch z), T.m.a, rfl, mth_of hh.h3 (by decide), ea_cons (ee_tup (ea_cons (ee_lit (ea_cons (ee_dat rfl (ea_nil ⟨[_, _], rfl, (by show 2 ≤ sizeLine; decide), ea_cons (ee_nget (ee_f (ns := nsT) (j := 5) (by decide) (ee_raw rfl ⟨T.a, CT, _, _, rfl, hm.h0, kt.cls, kt.spots, rfl, (fun i z => nomatch z), ee_op (ee_told kss (ee_f (ns := nsT) (j := 1) (by decide) (ee_raw rfl ⟨T.a, CT, _, _, rfl, hm.h0, kt.cls, kt.senses, rfl, (fun i z => nomatch z), T.s, T.t, T.l, T.n, sensN T.c, rfl, hm.hs, ee_dat rfl (o2_ixH hm.hs.h1 rfl (told_get hlt) ⟨T.spots, kS ((sensN T.c).say (T.c.first + pre.length)), d, hm.hp, congrArg Rs.dat (enS_k _), kS_depth _, hd, ea_cons (ee_dat rfl (ea_cons (ee_dat rfl (ea_nil ⟨⟨(Tl T ln ks cl).m, .tuple [nI 0, nI (T.c.first + pre.length)], d, fs, gs⟩, S, H, _, tdR P w CT CS (Tl T ln ks cl), rfl, rfl, ?_, fun _ _ _ _ => ?_, ?_⟩))))⟩)⟩)))⟩)))⟩))))))⟩)))
    · intro r' hr' j
      simp at hr'
      rcases hr' with rfl | rfl | rfl | rfl | rfl <;> exact fun z => nomatch z
    · show cl.length ≤ 999
      omega
    rintro r' cs - ⟨rfl, rfl⟩
    dsimp only
    generalize hrow : PyData.tuple [.tuple [nI 0, nI (T.c.first + pre.length)], d, .list fs, .list gs] = row
    have hrw : IsRow row := by
      rw [← hrow]
      exact row4 f1 f2 f3 f4
    have hm2 : HasT P w CT CS (Tl T ln ks (cl ++ [row])) (Wd.sym S H (adr (tdC P w CT CS CH T)) (tdC P w CT CS CH (Tl T ln ks (cl ++ [row])))) := has_tdn
    refine ee_f (ns := nsT) (j := 6) (by decide) (ee_raw rfl ⟨T.a, CT, _, _, rfl, hm2.h0, kt.cls, kt.lines, rfl, (fun i z => nomatch z), ee_dat rfl ⟨S, H, _, tdC P w CT CS CH (Tl T ln ks (cl ++ [row])), 7, _, _, ln, _, rfl, rfl, rfl, rfl, rfl, sz2000 (by omega), ?_⟩⟩)
    have hk1 : (cl ++ [row]).length = cl.length + 1 := by rw [List.length_append]; rfl
    refine ⟨pre ++ [(g', pre.length)], _, cl ++ [row], hpre2, by omega, by omega, app_row hcr hrw, hlo.put (Nat.le_refl _) ⟨.str "claim", cl.length, rfl, shK_str 0 sh_claim⟩ (fun z1 z2 => by omega), ?_, rfl, _, _, _, _, _, _, rfl⟩
    rw [hlen2, ← Nat.add_assoc]
    exact hla.put _
  · rintro Ω' δ' ⟨pre, ln, cl, hpre, hll, hcl, hcr, hlo, hla, rfl, b1, b2, b3, b4, b5, b6, rfl⟩
    have hpl : pre.length = T.c.gates.length := by
      rw [List.append_nil] at hpre
      rw [← hpre, List.length_zipIdx]
    rw [hpl] at hla hcl
    simp only [List.length_nil] at hkl
    exact ⟨_, rfl, rfl, ln, ks, cl, ⟨hlo, hla, hkr, hcr, by omega, by omega⟩, rfl⟩

end
end G
set_option Elab.async false
set_option linter.all false
set_option maxRecDepth 100000
set_option maxHeartbeats 4000000
set_option autoImplicit false
namespace G
open PySem PySem.Spec PyProof.Rows L2 D M
local macro_rules | `(tactic| walk_at "d1") => `(tactic| first
  | (with_reducible refine se_seq ?_)
  | (with_reducible refine se_next ?_)
  | (with_reducible refine se_set ?_)
  | (with_reducible refine se_retD ?_)
  | (with_reducible refine se_if ?_)
  | (with_reducible refine ee_lit ?_)
  | (with_reducible refine ee_int ?_)
  | (with_reducible refine ee_str ?_)
  | (with_reducible refine ee_bl ?_)
  | (with_reducible refine ee_non ?_)
  | (with_reducible refine ee_op ?_)
  | (with_reducible refine ee_tup ?_)
  | (with_reducible refine ee_cb ?_)
  | (with_reducible refine et_test ?_)
  | (with_reducible refine ea_nil ?_)
  | (with_reducible refine ea_cons ?_)
  | ((with_reducible refine' ee_dat ?e ?_); (case e => rfl))
  | ((with_reducible refine' ee_own ?e ?_); (case e => rfl))
  | ((with_reducible refine' ee_raw ?e ?_); (case e => rfl))
  | ((with_reducible refine' n_and ?ha ?hb ?_); (case ha => rfl); (case hb => rfl))
  | ((with_reducible refine' n_or ?ha ?hb ?_); (case ha => rfl); (case hb => rfl))
  | ((with_reducible refine' n_xor ?ha ?hb ?_); (case ha => rfl); (case hb => rfl))
  | ((with_reducible refine' n_add ?ha ?hb ?_); (case ha => rfl); (case hb => rfl))
  | ((with_reducible refine' n_sub ?ha ?hb ?hc ?_); (case ha => rfl); (case hb => rfl); (case hc => first | omega | assumption | decide))
  | ((with_reducible refine' n_mul ?ha ?hb ?hc ?_); (case ha => rfl); (case hb => rfl); (case hc => first | omega | assumption | decide))
  | ((with_reducible refine' n_shr ?ha ?hb ?_); (case ha => rfl); (case hb => rfl))
  | ((with_reducible refine' n_shl ?ha ?hb ?hc ?hd ?_); (case ha => rfl); (case hb => rfl); (case hc => first | omega | assumption | decide); (case hd => first | omega | assumption | decide))
  | ((with_reducible refine' n_lt ?ha ?hb ?_); (case ha => rfl); (case hb => rfl))
  | ((with_reducible refine' n_gt ?ha ?hb ?_); (case ha => rfl); (case hb => rfl))
  | ((with_reducible refine' n_eq ?ha ?hb ?_); (case ha => rfl); (case hb => rfl))
  | ((with_reducible refine' n_ne ?ha ?hb ?_); (case ha => rfl); (case hb => rfl))
  | (with_reducible refine ⟨_, rfl, ?_⟩)
  | (with_reducible refine ⟨_, _, rfl, ?_⟩)
  | (with_reducible refine ⟨_, _, _, rfl, ?_⟩)
  | (with_reducible refine ⟨_, _, _, _, rfl, ?_⟩)
  | exact ⟨rfl, _, rfl, rfl⟩)
local macro_rules | `(tactic| walk_at "d") => `(tactic| (repeat (walk_at "d1")))
section
variable {P : Program} {w : World} {K : PySem.W.Frag} {mg : Str → Option Value} {base : Heap}
theorem say_fold : ∀ (r : List Gate) (Z : Sens) (p : Nat), p < Z.told.length → (r.foldl Sens.next Z).say p = Z.say p
  | [], Z, p, _ => rfl
  | g :: r, Z, p, h => by
    rw [List.foldl_cons, say_fold r (Z.next g) p (by rw [told_next_len]; omega), say_next h]
theorem mem_say {c : Circ} {p b : Nat} (h1 : c.ins ≤ p) (h2 : p < c.first) (h : (sensN c).say p = .pl b) : c.ins ≤ b ∧ b < c.first := by
  have hi := widest_inv c
  have hl := hi.len
  have hf := first_eq c
  have hlen : ((List.range c.ins).map Sn.pl ++ widestN c).length = c.first := by
    rw [List.length_append, List.length_map, List.length_range, hl]
    rfl
  have e : (sensN c).say p = (⟨(List.range c.ins).map .pl ++ widestN c, []⟩ : Sens).say p := say_fold _ _ _ (by show p < List.length _; rw [hlen]; exact h2)
  rw [e] at h
  unfold Sens.say at h
  rw [List.getD_eq_getElem?_getD, List.getElem?_append_right (by rw [List.length_map, List.length_range]; exact h1), List.length_map, List.length_range, List.getElem?_eq_getElem (by omega)] at h
  have hm : Sn.pl b ∈ widestN c := by
    have h : (widestN c)[p - c.ins]'(by omega) = .pl b := h
    rw [← h]
    exact List.getElem_mem _
  have h3 := hi.can b hm
  have h4 := List.idxOf_lt_length_iff.mpr hm
  omega
abbrev Tk (T : Tdy) (ks : List PyData) : Tdy := { T with m := { T.m with ks := ks } }
abbrev Tc (T : Tdy) (cs : List PyData) : Tdy := { T with m := { T.m with cs := cs } }
abbrev sp_Tidying_lay_steps (P : Program) (w : World) (CT CS CH : Addr) : Sp := spG (fun T : Tdy => [.raw (.ref T.a)]) (fun T _ _ => COk T.c ∧ Cov (mkN T.c).fr T.spots (RootS T.c (sensN T.c)) ∧ LinesP T T.lines T.m.ks T.m.cs) (fun T => tdC P w CT CS CH T) (fun T r cs => r = .dat .none ∧ ∃ kl, kl.length = T.m.ks.length ∧ (∀ x ∈ kl, IsRow x) ∧ cs = tdC P w CT CS CH (Tk T kl))
theorem set_row {rs : List PyData} {r : PyData} (h : ∀ x ∈ rs, IsRow x) (k : IsRow r) (n : Nat) : ∀ x ∈ rs.set n r, IsRow x := fun x hx => by
  rcases List.mem_or_eq_of_mem_set hx with z | z
  · exact h x z
  · rw [z]
    exact k

abbrev N_Tidying_lay_steps : List Str := ["self", "ins", "memories", "gates", "outs", "number", "memory", "place", "nexts", "spot", "free", "given"]
theorem sc_Tidying_lay_steps : FnScope N_Tidying_lay_steps ["self"] (defScope s_Tidying_lay_steps) := ⟨rfl, rfl, rfl, by decide +kernel, rfl, by decide +kernel, by decide +kernel⟩
theorem ok_Tidying_lay_steps {k : Nat} {f : Addr} {fd : FuncData} (F : FnP K "lay_steps" "Tidying.lay_steps" s_Tidying_lay_steps f fd) (T : Fx mg) {CT CS CH : Addr} (kt : KT K CT) (kss : KS K CS) (c_Sheet_step : CalM P w K mg base k CH "step" ["self", "key", "free", "given"] (sp_Sheet_step CH)) (c_Tidying_ties : CalM P w K mg base k CT "ties" ["self", "places", "shown"] (sp_Tidying_ties P w CT CS)) : FnOk P w K mg base CX0 (k + 1) f fd ["self"] (sp_Tidying_lay_steps P w CT CS CH) := by
  refine F.ok sc_Tidying_lay_steps (spG_len fun _ => rfl) (fun cdv A outer s H vs Q E hr hsp => ?_)
  refine ⟨_, PSs.nox (pss_cons (ps_asg (pe_fld (pv 0) rfl) (pg_tup rfl (pgs_cons (pg_name (i := 1) sc_Tidying_lay_steps.nd rfl (Or.inl rfl)) (pgs_cons (pg_name (i := 2) sc_Tidying_lay_steps.nd rfl (Or.inl rfl)) (pgs_cons (pg_name (i := 3) sc_Tidying_lay_steps.nd rfl (Or.inl rfl)) (pgs_cons (pg_name (i := 4) sc_Tidying_lay_steps.nd rfl (Or.inl rfl)) pgs_nil))))))
    (pss_one (ps_for PassesOwn.never rfl (pi_enum (by rfl) T.enumerate (pa_cons (pv 2) pa_nil)) (pg_tup rfl (pgs_cons (pg_name (i := 5) sc_Tidying_lay_steps.nd rfl (Or.inl rfl)) (pgs_cons (pg_name (i := 6) sc_Tidying_lay_steps.nd rfl (Or.inl rfl)) pgs_nil)))
    (pss_cons (ps_set (i := 7) sc_Tidying_lay_steps.nd rfl (Or.inl rfl) (pe_op op_add (pv 1) (pv 5)))
    (pss_one (ps_if (pt_cmp (pc_din (hu_of hr) (pv 7) (pe_fld (pv 0) rfl)))
    (pss_cons (ps_set (i := 8) sc_Tidying_lay_steps.nd rfl (Or.inl rfl) (pe_lst (pa_cons (pe_ix ix_tup (pv 6) pe_int (fun _ _ => rfl)) pa_nil)))
    (pss_cons (ps_set (i := 9) sc_Tidying_lay_steps.nd rfl (Or.inl rfl) (pe_nget hr (pe_fld (pv 0) rfl) (pe_ix ix_list (pe_fld (pe_fld (pv 0) rfl) rfl) (pv 7) (fun _ _ => rfl)) (fun _ _ => rfl)))
    (pss_cons (ps_if (pt_cmpR (op_eqD hr.units) (pe_ix ix_tup (pv 9) pe_int (fun _ _ => rfl)) pe_int (nomark _))
    (pss_one (ps_expr (pe_bm PySem.F.plainAttrs_list PySem.F.slot_list_append PySem.F.type_list_append mt_append (pv 8) (pa_cons (pe_ix ix_tup (pe_ix ix_list (pv 2) (pe_op op_sub (pe_ix ix_tup (pv 9) pe_int (fun _ _ => rfl)) (pv 1)) (fun _ _ => rfl)) pe_int (fun _ _ => rfl)) pa_nil))))
    pss_nil)
    (pss_cons (ps_asg (pe_mcal (pv 0) c_Tidying_ties hr (pa_cons (pv 8) (pa_cons pe_non pa_nil))) (pg_tup rfl (pgs_cons (pg_name (i := 10) sc_Tidying_lay_steps.nd rfl (Or.inl rfl)) (pgs_cons (pg_name (i := 11) sc_Tidying_lay_steps.nd rfl (Or.inl rfl)) pgs_nil))))
    (pss_one (ps_expr (pe_mcal (pe_fld (pv 0) rfl) c_Sheet_step hr (pa_cons (pe_dget (hu_of hr) (pe_fld (pv 0) rfl) (pv 7) (fun _ _ => rfl)) (pa_cons (pv 10) (pa_cons (pv 11) pa_nil))))))))))
    pss_nil)))))), ?_⟩
  refine run_spG (P := P) (w := w) hsp ?_
  rintro T S H ⟨hc, hcov, hlp⟩
  have hins := hc.ins
  have hms := hc.mems
  have hfe := first_eq T.c
  have hkl := hlp.kl
  have hm : HasT P w CT CS (Tk T T.m.ks) (Wd.sym S H (adr (tdC P w CT CS CH T)) (tdC P w CT CS CH (Tk T T.m.ks))) := has_tdn
  refine se_seq (se_asg (ee_f (ns := nsT) (j := 0) (by decide) (ee_raw rfl ⟨T.a, CT, _, _, rfl, hm.h0, kt.cls, kt.circuit, rfl, (fun i z => nomatch z), _, _, rfl, gs_tup4, ?_⟩)))
  refine se_forX T.c.mems.zipIdx (fun q => .tuple [nI q.2, enM q.1]) (fun r Ω' δ' => ∃ pre kl, T.c.mems.zipIdx = pre ++ r ∧ kl.length = T.m.ks.length ∧ (∀ x ∈ kl, IsRow x) ∧ Ω' = Wd.sym S H (adr (tdC P w CT CS CH T)) (tdC P w CT CS CH (Tk T kl)) ∧ ∃ b1 b2 b3 b4 b5 b6 b7, δ' = [.raw (.ref T.a), .dat (nI T.c.ins), .dat (.list (T.c.mems.map enM)), .dat (.list (T.c.gates.map enG)), .dat (nL T.c.outs), b1, b2, b3, b4, b5, b6, b7]) (es_enum (ea_cons (ee_dat rfl (ea_nil ⟨_, rfl, enumD_map _ _, ⟨[], T.m.ks, rfl, rfl, hlp.kr, rfl, .un, .un, .un, .un, .un, .un, .un, rfl⟩, ?_, ?_⟩))))
  · rintro - ⟨m, i⟩ r Ω' δ' - ⟨pre, kl, hpre, hkl2, hkr, rfl, b1, b2, b3, b4, b5, b6, b7, rfl⟩
    have hm : HasT P w CT CS (Tk T kl) (Wd.sym S H (adr (tdC P w CT CS CH T)) (tdC P w CT CS CH (Tk T kl))) := has_tdn
    have hh : HasH CH (Tk T kl).m (Wd.sym S H (adr (tdC P w CT CS CH T)) (tdC P w CT CS CH (Tk T kl))) := has_tdnH
    have hi0 : T.c.mems.zipIdx[pre.length]? = some (m, i) := by rw [hpre, List.getElem?_append_right (Nat.le_refl _), Nat.sub_self]; rfl
    rw [List.getElem?_zipIdx] at hi0
    obtain ⟨m', hg, e⟩ := Option.map_eq_some_iff.mp hi0
    simp at e
    obtain ⟨rfl, rfl⟩ := e
    have hpl : pre.length < T.c.mems.length := (List.getElem?_eq_some_iff.mp hg).1
    have hmem := hc.mem m' (List.mem_of_getElem? hg)
    have hpre2 : T.c.mems.zipIdx = (pre ++ [(m', pre.length)]) ++ r := by rw [hpre, List.append_assoc]; rfl
    have hp1 : T.c.ins ≤ T.c.ins + pre.length := Nat.le_add_right _ _
    have hp2 : T.c.ins + pre.length < T.c.first := by omega
    obtain ⟨hlt, hroot⟩ := told_root hc (show T.c.ins + pre.length < totN T.c by unfold totN; omega)
    obtain ⟨d, hd, a, b, rfl, hab⟩ := hcov _ hroot
    have hok : TOk (Tk T kl) := ⟨hc, fun s hs => by
      obtain ⟨d, h1, a, b, h2, _⟩ := hcov s hs
      exact ⟨a, b, by rw [← h2]; exact h1⟩, hlp.ok.th⟩
    refine ⟨_, gs_tup2, ?_⟩
    refine se_seq (se_set (ee_op (ee_dat rfl (ee_dat rfl (n_add rfl rfl ⟨_, rfl, ?_⟩)))))
    refine se_if (et_B (ee_din (ee_dat rfl (ee_f (ns := nsT) (j := 6) (by decide) (ee_raw rfl ⟨T.a, CT, _, _, rfl, hm.h0, kt.cls, kt.lines, rfl, (fun i z => nomatch z), T.ln, ((T.c.ins + pre.length : Nat) : Int), T.lines, rfl, rfl, hm.hl, _, rfl, fun hb => ?_, fun hb => ?_⟩)))))
    · obtain ⟨x, hx⟩ := Option.isSome_iff_exists.mp hb
      obtain ⟨n, rfl, hn⟩ := hlp.ok.held _ x hp1 hp2 hx
      obtain ⟨rw4, hrw4⟩ : ∃ y, kl[n]? = some y := ⟨_, List.getElem?_eq_getElem (by omega)⟩
      obtain ⟨o1, o2, f0, g0, rfl, _⟩ := hkr _ (List.mem_of_getElem? hrw4)
      refine se_seq (se_setN (en_lst (ea_cons (ee_op (ee_dat rfl (ee_lit (n_ixT rfl rfl (ea_nil ⟨[nI m'.2], rfl, (by show 1 ≤ sizeLine; decide), (by show (8 : Nat) < 12; decide), ?_⟩))))))))
      refine se_seq (se_set (ee_nget (ee_f (ns := nsT) (j := 5) (by decide) (ee_raw rfl ⟨T.a, CT, _, _, rfl, hm.h0, kt.cls, kt.spots, rfl, (fun i z => nomatch z), ee_op (ee_told kss (ee_f (ns := nsT) (j := 1) (by decide) (ee_raw rfl ⟨T.a, CT, _, _, rfl, hm.h0, kt.cls, kt.senses, rfl, (fun i z => nomatch z), T.s, T.t, T.l, T.n, sensN T.c, rfl, hm.hs, ee_dat rfl (o2_ixH hm.hs.h1 rfl (told_get hlt) ⟨T.spots, kS ((sensN T.c).say (T.c.ins + pre.length)), _, hm.hp, congrArg Rs.dat (enS_k _), kS_depth _, hd, _, rfl, ?_⟩)⟩)))⟩))))
      refine se_seq (SE.imp (p := ⟨fun Ω' δ' => Ω' = Wd.sym S H (adr (tdC P w CT CS CH T)) (tdC P w CT CS CH (Tk T kl)) ∧ ∃ ns : List Nat, ns.length ≤ 2 ∧ (∀ q ∈ ns, q < totN T.c) ∧ δ' = [.raw (.ref T.a), .dat (nI T.c.ins), .dat (.list (T.c.mems.map enM)), .dat (.list (T.c.gates.map enG)), .dat (nL T.c.outs), .dat (nI pre.length), .dat (enM m'), .dat (nI (T.c.ins + pre.length)), .own (ns.map nI), .dat (.tuple [nI a, nI b]), b6, b7], fun _ _ => False, fun _ _ => False, fun _ _ => False⟩) ?_ ?_ (fun _ _ z => z.elim) (fun _ _ z => z.elim) (fun _ _ z => z.elim))
      · refine se_if (et_test (ee_op (ee_op (ee_dat rfl (ee_lit (n_ixT rfl rfl (ee_lit (n_eq rfl rfl ⟨_, rfl, fun hb2 => ?_, fun _ => se_next ⟨rfl, [m'.2], by simp, ?_, rfl⟩⟩))))))))
        · have ha0 : a = 0 := of_decide_eq_true hb2
          obtain ⟨hs1, _⟩ := hab ha0
          obtain ⟨k1, k2⟩ := mem_say hp1 hp2 hs1
          refine se_append (i := 8) rfl (ee_op (ee_op (ee_dat rfl (ee_op (ee_op (ee_dat rfl (ee_lit (n_ixT rfl rfl (ee_dat rfl (n_sub rfl rfl k1 (n_ixL rfl (mem_en k1 k2) (ee_lit (n_ixT rfl rfl ⟨_, [nI m'.2], rfl, rfl, (by show 1 < sizeLine; decide), rfl, [m'.2, (T.c.mems.getD (b - T.c.ins) (0, 0)).2], by simp, ?_, rfl⟩)))))))))))))
          intro q hq
          simp at hq
          rcases hq with rfl | rfl
          · exact hmem.2
          · have := next_lt hc k1 k2
            rw [(sens_inv hc).ok.len] at this
            exact this
        · intro q hq
          rw [List.mem_singleton.mp hq]
          exact hmem.2
      rintro Ω' δ' ⟨rfl, ns, hn1, hn2, rfl⟩
      refine se_freeze (i := 8) rfl ?_
      refine se_seq (se_asg (ee_ties (ee_raw rfl ⟨Tk T kl, rfl, hm, hok, ea_cons (ee_dat rfl (ea_cons (ee_non (ea_nil ⟨rfl, ns, .list (ns.map nI), .none, rfl, hn2, by omega, .inl rfl, .inl rfl, fun d2 hd2 => ?_⟩))))⟩)))
      obtain ⟨fs, gs, rfl, f1, f2, f3, f4⟩ := hd2
      refine ⟨_, _, rfl, gs_tup2, ?_⟩
      refine se_drop (ee_methG (hr := fun i r cs hp j => by rw [hp.1]; exact fun z => nomatch z) (ee_f (ns := nsT) (j := 3) (by decide) (ee_raw rfl ⟨T.a, CT, _, _, rfl, hm.h0, kt.cls, kt.sheet, rfl, (fun i z => nomatch z), T.m.a, rfl, mth_of hh.h3 (by decide), ea_cons (ee_dget (ee_f (ns := nsT) (j := 6) (by decide) (ee_raw rfl ⟨T.a, CT, _, _, rfl, hm.h0, kt.cls, kt.lines, rfl, (fun i z => nomatch z), T.ln, rfl, ee_dat rfl ⟨((T.c.ins + pre.length : Nat) : Int), T.lines, _, rfl, hm.hl, hx, ea_cons (ee_dat rfl (ea_cons (ee_dat rfl (ea_nil ⟨⟨(Tk T kl).m, .str "held", n, o1, o2, .list f0, .list g0, fs, gs⟩, S, H, _, tdR P w CT CS (Tk T kl), rfl, rfl, ?_, fun _ _ _ _ => hrw4, ?_⟩))))⟩⟩)))⟩)))
      · intro r' hr' j
        simp at hr'
        rcases hr' with rfl | rfl | rfl | rfl <;> exact fun z => nomatch z
      rintro r' cs - ⟨rfl, rfl⟩
      dsimp only
      exact ⟨pre ++ [(m', pre.length)], kl.set n (.tuple [o1, o2, .list fs, .list gs]), hpre2, by rw [List.length_set]; exact hkl2, set_row hkr (row4 f1 f2 f3 f4) n, rfl, _, _, _, _, _, _, _, rfl⟩
    · exact se_next ⟨pre ++ [(m', pre.length)], kl, hpre2, hkl2, hkr, rfl, _, _, _, _, _, _, _, rfl⟩
  · rintro Ω' δ' ⟨pre, kl, hpre, hkl2, hkr, rfl, b1, b2, b3, b4, b5, b6, b7, rfl⟩
    exact ⟨_, rfl, rfl, kl, hkl2, hkr, rfl⟩

structure EndOk (T : Tdy) (p : Nat) : Prop where
  c : COk T.c
  fr : T.fresh = (mkN T.c).fr
  cov : Cov (mkN T.c).fr T.spots (RootS T.c (sensN T.c))
  th : ∀ (p : Nat) (d : PyData), dkGet T.lines (p : Int) = some d → IsTh d
  all : LnAll T.c T.spots T.lines (totN T.c)
  out : p ∈ T.c.outs
  cr : ∀ x ∈ T.m.cs, IsRow x
  cl : T.m.cs.length ≤ 900
abbrev sp_Tidying_end (P : Program) (w : World) (CT CS CH : Addr) : Sp := spG (fun i : I_TP => [.raw (.ref i.T.a), .dat (nI i.p)]) (fun i _ _ => EndOk i.T i.p) (fun i => tdC P w CT CS CH i.T) (fun i r cs => ∃ d cl, r = .dat d ∧ IsTh d ∧ cl.length ≤ i.T.m.cs.length + 1 ∧ (∀ x ∈ cl, IsRow x) ∧ cs = tdC P w CT CS CH (Tc i.T cl))

abbrev N_Tidying_end : List Str := ["self", "place", "sense"]
theorem sc_Tidying_end : FnScope N_Tidying_end ["self", "place"] (defScope s_Tidying_end) := ⟨rfl, rfl, rfl, by decide +kernel, rfl, by decide +kernel, by decide +kernel⟩
theorem ok_Tidying_end {k : Nat} {f : Addr} {fd : FuncData} (F : FnP K "end" "Tidying.end" s_Tidying_end f fd) (T : Fx mg) {CT CS CH : Addr} (kt : KT K CT) (kss : KS K CS) (c_Sheet_claim : CalM P w K mg base k CH "claim" ["self", "one", "other", "free", "given"] (sp_Sheet_claim CH)) : FnOk P w K mg base CX0 (k + 1) f fd ["self", "place"] (sp_Tidying_end P w CT CS CH) := by
  refine F.ok sc_Tidying_end (spG_len fun _ => rfl) (fun cdv A outer s H vs Q E hr hsp => ?_)
  refine ⟨_, PSs.nox (pss_cons (ps_set (i := 2) sc_Tidying_end.nd rfl (Or.inl rfl) (pe_ix ix_list (pe_fld (pe_fld (pv 0) rfl) rfl) (pv 1) (fun _ _ => rfl)))
    (pss_cons (ps_if (pt_cmpR (op_eqD hr.units) (pe_ix ix_tup (pv 2) pe_int (fun _ _ => rfl)) pe_str (nomark _))
    (pss_one (ps_ret (pe_mcal (pe_fld (pv 0) rfl) c_Sheet_claim hr (pa_cons (pe_tup (pa_cons pe_int (pa_cons (pv 1) pa_nil))) (pa_cons (pe_tup (pa_cons pe_int (pa_cons (pe_nget hr (pe_fld (pv 0) rfl) (pv 2) (fun _ _ => rfl)) pa_nil))) (pa_cons (pe_lst (pa_cons (pe_tup (pa_cons pe_int (pa_cons (pv 1) pa_nil))) pa_nil)) (pa_cons (pe_lst (pa_cons (pe_dget (hu_of hr) (pe_fld (pv 0) rfl) (pv 1) (fun _ _ => rfl)) pa_nil)) pa_nil)))))))
    pss_nil)
    (pss_one (ps_ret (pe_dget (hu_of hr) (pe_fld (pv 0) rfl) (pv 1) (fun _ _ => rfl)))))), ?_⟩
  refine run_spG (P := P) (w := w) hsp ?_
  rintro ⟨T, p⟩ S H ho
  dsimp only at ho ⊢
  have hc := ho.c
  have hzi := sens_inv hc
  have hp := hc.out p ho.out
  obtain ⟨hlt, hroot⟩ := told_root hc (show p < totN T.c from hp)
  have hneed := (need_ok hc).out p ho.out
  have hm : HasT P w CT CS T (Wd.sym S H (adr (tdC P w CT CS CH T)) (tdC P w CT CS CH T)) := has_tdn
  have hh : HasH CH T.m (Wd.sym S H (adr (tdC P w CT CS CH T)) (tdC P w CT CS CH T)) := has_tdnH
  obtain ⟨x, hx⟩ : ∃ x, dkGet T.lines (p : Int) = some x := by
    refine Option.isSome_iff_exists.mp (ho.all p hp ?_)
    refine .inr (.inr fun z => ?_)
    obtain ⟨d, hd, a, b, rfl, hab⟩ := ho.cov _ hroot
    rw [hd] at z
    injection z with z
    injection z with z
    injection z with z1 z2
    injection z1 with z1
    have := (hab (by omega)).2
    have h2 := fr_need hc hneed
    rw [this] at h2
    cases h2
  have hxt := ho.th p x hx
  refine se_seq (se_set (ee_op (ee_told kss (ee_f (ns := nsT) (j := 1) (by decide) (ee_raw rfl ⟨T.a, CT, _, _, rfl, hm.h0, kt.cls, kt.senses, rfl, (fun i z => nomatch z), T.s, T.t, T.l, T.n, sensN T.c, rfl, hm.hs, ee_dat rfl (o2_ixH hm.hs.h1 rfl (told_get hlt) ⟨_, rfl, ?_⟩)⟩)))))
  have efr : ∃ n, lookD (kvN T.fresh) (.tup (kS ((sensN T.c).say p))) = some (nI n) := by
    obtain ⟨n, hn⟩ := Option.isSome_iff_exists.mp (fr_need hc hneed)
    exact ⟨n, by rw [lookD_kvN, ho.fr, hn]; rfl⟩
  have hcl := ho.cl
  cases hs : (sensN T.c).say p with
  | bit v =>
    rw [hs] at efr
    obtain ⟨n, hn⟩ := efr
    refine se_seq (se_if (et_test (ee_op (ee_op (ee_dat rfl (ee_lit (n_ixT rfl rfl (ee_str (n_eqS sh_bit sh_bit ⟨_, rfl, fun _ => ?_, fun h => by simp at h⟩)))))))))
    refine se_ret (ee_methG (hr := fun i r cs hp j => by rw [hp.1]; exact fun z => nomatch z) (ee_f (ns := nsT) (j := 3) (by decide) (ee_raw rfl ⟨T.a, CT, _, _, rfl, hm.h0, kt.cls, kt.sheet, rfl, (fun i z => nomatch z), T.m.a, rfl, mth_of hh.h3 (by decide), ea_cons (ee_tup (ea_cons (ee_lit (ea_cons (ee_dat rfl (ea_nil ⟨[_, _], rfl, (by show 2 ≤ sizeLine; decide), ea_cons (ee_tup (ea_cons (ee_lit (ea_cons (ee_nget (ee_f (ns := nsT) (j := 4) (by decide) (ee_raw rfl ⟨T.a, CT, _, _, rfl, hm.h0, kt.cls, kt.fresh, rfl, (fun i z => nomatch z), ee_dat rfl ⟨kvN T.fresh, kS (.bit v), nI n, hm.hf, congrArg Rs.dat (enS_k (.bit v)), kS_depth _, hn, ea_nil ⟨[_, _], rfl, (by show 2 ≤ sizeLine; decide), ea_cons (ee_new (en_lst (ea_cons (ee_tup (ea_cons (ee_lit (ea_cons (ee_dat rfl (ea_nil ⟨[_, _], rfl, (by show 2 ≤ sizeLine; decide), ea_nil ⟨[_], rfl, (by show 1 ≤ sizeLine; decide), ea_cons (ee_new (en_lst (ea_cons (ee_dget (ee_f (ns := nsT) (j := 6) (by decide) (ee_raw rfl ⟨T.a, CT, _, _, rfl, hm.h0, kt.cls, kt.lines, rfl, (fun i z => nomatch z), T.ln, rfl, ee_dat rfl ⟨(p : Int), T.lines, x, rfl, hm.hl, hx, ea_nil ⟨[_], rfl, (by show 1 ≤ sizeLine; decide), ea_nil ⟨⟨T.m, .tuple [nI 0, nI p], .tuple [nI 1, nI n], [.tuple [nI 0, nI p]], [x]⟩, S, H, _, tdR P w CT CS T, rfl, rfl, ?_, fun _ _ _ _ => ?_, ?_⟩⟩⟩⟩))))))⟩⟩)))))))))⟩⟩⟩)))))))⟩))))))⟩)))
    · intro r' hr' j
      simp at hr'
      rcases hr' with rfl | rfl | rfl | rfl | rfl <;> exact fun z => nomatch z
    · show T.m.cs.length ≤ 999
      omega
    rintro r' cs - ⟨rfl, rfl⟩
    dsimp only
    refine ⟨(fun i z => nomatch z), _, rfl, (fun i z => nomatch z), _, T.m.cs ++ [.tuple [.tuple [nI 0, nI p], .tuple [nI 1, nI n], .list [.tuple [nI 0, nI p]], .list [x]]], rfl, ⟨.str "claim", _, rfl, shK_str 0 sh_claim⟩, ?_, app_row ho.cr (row4 (by simp) (by simp) (one_all (th_pair 0 p)) (one_all hxt)), rfl⟩
    rw [List.length_append]
    exact Nat.le_refl _
  | pl v =>
    refine se_seq (se_if (et_test (ee_op (ee_op (ee_dat rfl (ee_lit (n_ixT rfl rfl (ee_str (n_eqS sh_place sh_bit ⟨_, rfl, fun h => by simp [place_ne] at h, fun _ => ?_⟩)))))))))
    refine se_next ?_
    exact se_ret (ee_dget (ee_f (ns := nsT) (j := 6) (by decide) (ee_raw rfl ⟨T.a, CT, _, _, rfl, hm.h0, kt.cls, kt.lines, rfl, (fun i z => nomatch z), T.ln, rfl, ee_dat rfl ⟨(p : Int), T.lines, x, rfl, hm.hl, hx, (fun i z => nomatch z), _, rfl, (fun i z => nomatch z), x, T.m.cs, rfl, hxt, Nat.le_succ _, ho.cr, rfl⟩⟩)))

end
end G
set_option Elab.async false
set_option linter.all false
set_option maxRecDepth 100000
set_option maxHeartbeats 4000000
set_option autoImplicit false
namespace G
open PySem PySem.Spec PyProof.Rows L2 D M
local macro_rules | `(tactic| walk_at "d1") => `(tactic| first
  | (with_reducible refine se_seq ?_)
  | (with_reducible refine se_next ?_)
  | (with_reducible refine se_set ?_)
  | (with_reducible refine se_retD ?_)
  | (with_reducible refine se_if ?_)
  | (with_reducible refine ee_lit ?_)
  | (with_reducible refine ee_int ?_)
  | (with_reducible refine ee_str ?_)
  | (with_reducible refine ee_bl ?_)
  | (with_reducible refine ee_non ?_)
  | (with_reducible refine ee_op ?_)
  | (with_reducible refine ee_tup ?_)
  | (with_reducible refine ee_cb ?_)
  | (with_reducible refine et_test ?_)
  | (with_reducible refine ea_nil ?_)
  | (with_reducible refine ea_cons ?_)
  | ((with_reducible refine' ee_dat ?e ?_); (case e => rfl))
  | ((with_reducible refine' ee_own ?e ?_); (case e => rfl))
  | ((with_reducible refine' ee_raw ?e ?_); (case e => rfl))
  | ((with_reducible refine' n_and ?ha ?hb ?_); (case ha => rfl); (case hb => rfl))
  | ((with_reducible refine' n_or ?ha ?hb ?_); (case ha => rfl); (case hb => rfl))
  | ((with_reducible refine' n_xor ?ha ?hb ?_); (case ha => rfl); (case hb => rfl))
  | ((with_reducible refine' n_add ?ha ?hb ?_); (case ha => rfl); (case hb => rfl))
  | ((with_reducible refine' n_sub ?ha ?hb ?hc ?_); (case ha => rfl); (case hb => rfl); (case hc => first | omega | assumption | decide))
  | ((with_reducible refine' n_mul ?ha ?hb ?hc ?_); (case ha => rfl); (case hb => rfl); (case hc => first | omega | assumption | decide))
  | ((with_reducible refine' n_shr ?ha ?hb ?_); (case ha => rfl); (case hb => rfl))
  | ((with_reducible refine' n_shl ?ha ?hb ?hc ?hd ?_); (case ha => rfl); (case hb => rfl); (case hc => first | omega | assumption | decide); (case hd => first | omega | assumption | decide))
  | ((with_reducible refine' n_lt ?ha ?hb ?_); (case ha => rfl); (case hb => rfl))
  | ((with_reducible refine' n_gt ?ha ?hb ?_); (case ha => rfl); (case hb => rfl))
  | ((with_reducible refine' n_eq ?ha ?hb ?_); (case ha => rfl); (case hb => rfl))
  | ((with_reducible refine' n_ne ?ha ?hb ?_); (case ha => rfl); (case hb => rfl))
  | (with_reducible refine ⟨_, rfl, ?_⟩)
  | (with_reducible refine ⟨_, _, rfl, ?_⟩)
  | (with_reducible refine ⟨_, _, _, rfl, ?_⟩)
  | (with_reducible refine ⟨_, _, _, _, rfl, ?_⟩)
  | exact ⟨rfl, _, rfl, rfl⟩)
local macro_rules | `(tactic| walk_at "d") => `(tactic| (repeat (walk_at "d1")))
section
variable {P : Program} {w : World} {K : PySem.W.Frag} {mg : Str → Option Value} {base : Heap}
/-- a method of all the cells -/
theorem ee_methW {Ω : Wd} {δ : List AS} {R : KR} {ta : TE} {ι : Type} {C : Addr} {m : Str} {args : ι → List Rs} {hyp : ι → Hp → Hp → Prop} {pre : ι → Cells} {post : ι → Rs → Cells → Prop} {t : TA} {E : XK} (hr : ∀ i r cs, post i r cs → ∀ j, r ≠ .own j)
    (h : EE P w ta Ω δ fun r Ω1 δ1 => ∃ a, r = .raw (.ref a) ∧ (∀ S H, Same S H → Ω1.W S H → ∃ dx fs, H a = some (.ins C dx fs) ∧ fs.lookup m = none) ∧ EA P w t Ω1 δ1 fun rs Ω2 δ2 => ∃ i S0 H0 M, Ω2 = Wd.sym S0 H0 M (pre i) ∧ .raw (.ref a) :: rs = args i ∧ (∀ r ∈ args i, ∀ j, r ≠ .own j) ∧
      (∀ S H, Same S H → Ω2.W S H → hyp i S H) ∧ ∀ r cs, (∀ j, r ≠ .own j) → post i r cs → R r (Wd.sym S0 H0 M cs) δ2) : EE P w (tMeth C m (spG args hyp pre post) [] E ta t) Ω δ R :=
  ee_methG (h.imp fun r Ω1 δ1 ⟨a, e, hm, k⟩ => ⟨a, e, hm, EA.imp k fun rs Ω2 δ2 ⟨i, S0, H0, M, e2, e3, h1, h2, h3⟩ => ⟨i, S0, H0, M, [], by rw [e2, List.append_nil], e3, h1, h2, fun r cs hj hp => by rw [List.append_nil]; exact h3 r cs hj hp⟩⟩) hr
structure New (T : Tdy) : Prop where
  c : COk T.c
  fr : T.fresh = (mkN T.c).fr
  sp : T.spots = []
  ln : T.lines = []
  hs : T.m.hs = []
  ks : T.m.ks = []
  cs : T.m.cs = []
abbrev sp_Tidying_paper (P : Program) (w : World) (CT CS CH : Addr) : Sp := spG (fun T : Tdy => [.raw (.ref T.a)]) (fun T _ _ => New T) (fun T => tdC P w CT CS CH T) (fun T r cs => ∃ d, r = .dat d)

abbrev N_Tidying_paper : List Str := ["self", "place"]
theorem sc_Tidying_paper : FnScope N_Tidying_paper ["self"] (defScope s_Tidying_paper) := ⟨rfl, rfl, rfl, by decide +kernel, rfl, by decide +kernel, by decide +kernel⟩
theorem ok_Tidying_paper {k : Nat} {f : Addr} {fd : FuncData} (F : FnP K "paper" "Tidying.paper" s_Tidying_paper f fd) (T : Fx mg) {CT CS CH : Addr} (kt : KT K CT) (kss : KS K CS) (c_Sheet_paper : CalM P w K mg base k CH "paper" ["self", "ends"] (sp_Sheet_paper CH)) (c_Tidying_end : CalM P w K mg base k CT "end" ["self", "place"] (sp_Tidying_end P w CT CS CH)) (c_Tidying_lay_lines : CalM P w K mg base k CT "lay_lines" ["self"] (sp_Tidying_lay_lines P w CT CS CH)) (c_Tidying_lay_spots : CalM P w K mg base k CT "lay_spots" ["self"] (sp_Tidying_lay_spots P w CT CS CH)) (c_Tidying_lay_steps : CalM P w K mg base k CT "lay_steps" ["self"] (sp_Tidying_lay_steps P w CT CS CH)) : FnOk P w K mg base CX0 (k + 1) f fd ["self"] (sp_Tidying_paper P w CT CS CH) := by
  refine F.ok sc_Tidying_paper (spG_len fun _ => rfl) (fun cdv A outer s H vs Q E hr hsp => ?_)
  refine ⟨_, PSs.nox (pss_cons (ps_expr (pe_mcal0 (pv 0) c_Tidying_lay_spots hr))
    (pss_cons (ps_expr (pe_mcal0 (pv 0) c_Tidying_lay_lines hr))
    (pss_cons (ps_expr (pe_mcal0 (pv 0) c_Tidying_lay_steps hr))
    (pss_one (ps_ret (pe_mcal (pe_fld (pv 0) rfl) c_Sheet_paper hr (pa_cons (pe_lc (own := [("place", 1)]) (g := gName 1) (by rfl) sc_Tidying_paper.nd (pi_list (pe_ix ix_tup (pe_fld (pv 0) rfl) pe_int (fun _ _ => rfl))) (blkOk_by (own := [("place", 1)]) (N := N_Tidying_paper) (sc := defScope s_Tidying_paper) (by decide +kernel)) (fun _ _ _ _ _ => pg_name (i := 1) sc_Tidying_paper.nd rfl (Or.inl rfl)) (fun _ _ _ _ _ => pts_nil) (fun _ _ _ _ _ => pe_mcal (pv 0) c_Tidying_end hr (pa_cons (pv 1) pa_nil))) pa_nil))))))), ?_⟩
  refine run_spG (P := P) (w := w) hsp ?_
  rintro T S H hn
  have hc := hn.c
  have hos := hc.outs
  have hM : HasT P w CT CS T (Wd.sym S H (adr (tdC P w CT CS CH T)) (tdC P w CT CS CH T)) := has_tdn
  refine se_seq (se_drop (ee_methW (fun i r cs hp j => by rw [hp.1]; exact fun z => nomatch z) (ee_raw rfl ⟨T.a, rfl, mth_of hM.h0 (by decide), ea_nil ⟨T, S, H, _, rfl, rfl, by simp, fun _ _ _ _ => ⟨hc, hn.fr, hn.sp, hn.hs⟩, ?_⟩⟩)))
  rintro r cs - ⟨rfl, sp, hs, hcov, hhl, rfl⟩
  have hM : HasT P w CT CS (Ts T sp hs) (Wd.sym S H (adr (tdC P w CT CS CH T)) (tdC P w CT CS CH (Ts T sp hs))) := has_tdn
  refine se_seq (se_drop (ee_methW (fun i r cs hp j => by rw [hp.1]; exact fun z => nomatch z) (ee_raw rfl ⟨T.a, rfl, mth_of hM.h0 (by decide), ea_nil ⟨Ts T sp hs, S, H, _, rfl, rfl, by simp, fun _ _ _ _ => ⟨hc, hcov, hn.ln, hn.ks, hn.cs⟩, ?_⟩⟩)))
  rintro r cs - ⟨rfl, ln, kl, cl, hlp, rfl⟩
  have hM : HasT P w CT CS (Tl (Ts T sp hs) ln kl cl) (Wd.sym S H (adr (tdC P w CT CS CH T)) (tdC P w CT CS CH (Tl (Ts T sp hs) ln kl cl))) := has_tdn
  refine se_seq (se_drop (ee_methW (fun i r cs hp j => by rw [hp.1]; exact fun z => nomatch z) (ee_raw rfl ⟨T.a, rfl, mth_of hM.h0 (by decide), ea_nil ⟨Tl (Ts T sp hs) ln kl cl, S, H, _, rfl, rfl, by simp, fun _ _ _ _ => ⟨hc, hcov, ⟨hlp.ok, hlp.all, hlp.kr, hlp.cr, hlp.kl, hlp.cl⟩⟩, ?_⟩⟩)))
  rintro r cs - ⟨rfl, kl2, hkl2, hkr2, rfl⟩
  dsimp only at hkl2
  have hkl := hlp.kl
  have hcl := hlp.cl
  generalize hT3 : Tk (Tl (Ts T sp hs) ln kl cl) kl2 = T3
  have q1 : T3.a = T.a := by rw [← hT3]
  have q2 : T3.c = T.c := by rw [← hT3]
  have q3 : T3.m.cs = cl := by rw [← hT3]
  have q4 : T3.m.ks = kl2 := by rw [← hT3]
  have q5 : T3.m.hs = hs := by rw [← hT3]
  have q6 : T3.fresh = (mkN T3.c).fr := by rw [← hT3]; exact hn.fr
  have q7 : Cov (mkN T3.c).fr T3.spots (RootS T3.c (sensN T3.c)) := by rw [← hT3]; exact hcov
  have q8 : ∀ (p : Nat) (d : PyData), dkGet T3.lines (p : Int) = some d → IsTh d := by rw [← hT3]; exact hlp.ok.th
  have q9 : LnAll T3.c T3.spots T3.lines (totN T3.c) := by rw [← hT3]; exact hlp.all
  have hM : ∀ cl, HasT P w CT CS (Tc T3 cl) (Wd.sym S H (adr (tdC P w CT CS CH T)) (tdC P w CT CS CH (Tc T3 cl))) := fun cl => has_tdn
  have hH : ∀ cl, HasH CH (Tc T3 cl).m (Wd.sym S H (adr (tdC P w CT CS CH T)) (tdC P w CT CS CH (Tc T3 cl))) := fun cl => has_tdnH
  have e3 : tdC P w CT CS CH T3 = tdC P w CT CS CH (Tc T3 cl) := by rw [← q3]
  rw [e3, ← q1]
  clear hT3
  generalize T3 = T at *
  refine se_ret (ee_methR (ee_f (ns := nsT) (j := 3) (by decide) (ee_raw rfl ⟨T.a, CT, _, _, rfl, (hM cl).h0, kt.cls, kt.sheet, rfl, (fun i z => nomatch z), T.m.a, rfl, mth_of (hH cl).h3 (by decide), ea_cons (ee_new (en_lcX T.c.outs nI (fun r Ω' acc => ∃ cl2, Ω' = Wd.sym S H _ (tdC P w CT CS CH (Tc T cl2)) ∧ cl2.length + r.length ≤ 300 ∧ (∀ x ∈ cl2, IsRow x) ∧ ∀ d ∈ acc, IsTh d) (es_list (ee_op (ee_f (ns := nsT) (j := 0) (by decide) (ee_raw rfl ⟨T.a, CT, _, _, rfl, (hM cl).h0, kt.cls, kt.circuit, rfl, (fun i z => nomatch z), ee_lit (n_ixT rfl rfl ⟨_, rfl, rfl, rfl, ?_, ⟨cl, rfl, ?_, hlp.cr, fun _ z => (nomatch z)⟩, ?_, ?_⟩)⟩))))))⟩)))
  · exact Nat.lt_of_le_of_lt (by rw [q2]; exact hos) (by decide)
  · rw [q2]
    omega
  · rintro pre p r Ω' acc hx - ⟨cl2, rfl, hcl2, hcr2, hacc⟩
    rw [List.length_cons] at hcl2
    refine ⟨_, gs_name, rfl, et_yes ⟨rfl, fun _ => ?_, fun z => nomatch z⟩⟩
    refine ee_methW (fun i r cs ⟨d, cl, e, _⟩ j => by rw [e]; exact fun z => nomatch z) (ee_raw rfl ⟨T.a, rfl, mth_of (hM cl2).h0 (by decide), ea_cons (ee_dat rfl (ea_nil ⟨⟨Tc T cl2, p⟩, S, H, _, rfl, rfl, ?_, fun _ _ _ _ => ⟨by rw [q2]; exact hc, q6, q7, q8, q9, by rw [hx]; simp, hcr2, ?_⟩, ?_⟩))⟩)
    · intro r' hr' j
      simp at hr'
      rcases hr' with rfl | rfl <;> exact fun z => nomatch z
    · show cl2.length ≤ 900
      omega
    · rintro r' cs - ⟨d, cl3, rfl, hd, hl3, hr3, rfl⟩
      exact ⟨rfl, d, rfl, cl3, rfl, by have : cl3.length ≤ cl2.length + 1 := hl3; omega, hr3, app_th hacc (one_all hd)⟩
  rintro Ω' acc hal ⟨cl2, rfl, hcl2, hcr2, hacc⟩
  refine ea_nil ⟨⟨(Tc T cl2).m, acc⟩, rfl, by simp, fun S2 H2 e2 hw => ⟨(hH cl2).now S2 H2 e2 hw, ⟨?_, hcr2, ?_, ?_, ?_⟩, ?_, hacc⟩, fun d _ => ⟨(fun i z => nomatch z), _, rfl, (fun i z => nomatch z), d, rfl⟩⟩
  · show ∀ r ∈ T.m.ks, IsRow r
    rw [q4]
    exact hkr2
  · show T.m.hs.length ≤ 1000
    rw [q5]
    omega
  · show T.m.ks.length ≤ 1000
    rw [q4]
    omega
  · show cl2.length ≤ 1000
    omega
  · show acc.length ≤ 100
    rw [q2] at hal
    omega

end
end G
set_option Elab.async false
set_option linter.all false
set_option maxRecDepth 100000
set_option maxHeartbeats 4000000
set_option autoImplicit false
namespace G
open PySem PySem.Spec PyProof.Rows L2 D M
local macro_rules | `(tactic| walk_at "d1") => `(tactic| first
  | (with_reducible refine se_seq ?_)
  | (with_reducible refine se_next ?_)
  | (with_reducible refine se_set ?_)
  | (with_reducible refine se_retD ?_)
  | (with_reducible refine se_if ?_)
  | (with_reducible refine ee_lit ?_)
  | (with_reducible refine ee_int ?_)
  | (with_reducible refine ee_str ?_)
  | (with_reducible refine ee_bl ?_)
  | (with_reducible refine ee_non ?_)
  | (with_reducible refine ee_op ?_)
  | (with_reducible refine ee_tup ?_)
  | (with_reducible refine ee_cb ?_)
  | (with_reducible refine et_test ?_)
  | (with_reducible refine ea_nil ?_)
  | (with_reducible refine ea_cons ?_)
  | ((with_reducible refine' ee_dat ?e ?_); (case e => rfl))
  | ((with_reducible refine' ee_own ?e ?_); (case e => rfl))
  | ((with_reducible refine' ee_raw ?e ?_); (case e => rfl))
  | ((with_reducible refine' n_and ?ha ?hb ?_); (case ha => rfl); (case hb => rfl))
  | ((with_reducible refine' n_or ?ha ?hb ?_); (case ha => rfl); (case hb => rfl))
  | ((with_reducible refine' n_xor ?ha ?hb ?_); (case ha => rfl); (case hb => rfl))
  | ((with_reducible refine' n_add ?ha ?hb ?_); (case ha => rfl); (case hb => rfl))
  | ((with_reducible refine' n_sub ?ha ?hb ?hc ?_); (case ha => rfl); (case hb => rfl); (case hc => first | omega | assumption | decide))
  | ((with_reducible refine' n_mul ?ha ?hb ?hc ?_); (case ha => rfl); (case hb => rfl); (case hc => first | omega | assumption | decide))
  | ((with_reducible refine' n_shr ?ha ?hb ?_); (case ha => rfl); (case hb => rfl))
  | ((with_reducible refine' n_shl ?ha ?hb ?hc ?hd ?_); (case ha => rfl); (case hb => rfl); (case hc => first | omega | assumption | decide); (case hd => first | omega | assumption | decide))
  | ((with_reducible refine' n_lt ?ha ?hb ?_); (case ha => rfl); (case hb => rfl))
  | ((with_reducible refine' n_gt ?ha ?hb ?_); (case ha => rfl); (case hb => rfl))
  | ((with_reducible refine' n_eq ?ha ?hb ?_); (case ha => rfl); (case hb => rfl))
  | ((with_reducible refine' n_ne ?ha ?hb ?_); (case ha => rfl); (case hb => rfl))
  | (with_reducible refine ⟨_, rfl, ?_⟩)
  | (with_reducible refine ⟨_, _, rfl, ?_⟩)
  | (with_reducible refine ⟨_, _, _, rfl, ?_⟩)
  | (with_reducible refine ⟨_, _, _, _, rfl, ?_⟩)
  | exact ⟨rfl, _, rfl, rfl⟩)
local macro_rules | `(tactic| walk_at "d") => `(tactic| (repeat (walk_at "d1")))
section
variable {P : Program} {w : World} {K : PySem.W.Frag} {mg : Str → Option Value} {base : Heap}
theorem perm13 {α : Type} (a0 a1 a2 a3 a4 a5 a6 a7 a8 a9 a10 a11 a12 : α) : [a0, a1, a2, a3, a4, a5, a6, a7, a8, a9, a10, a11, a12].Perm [a3, a4, a5, a6, a12, a2, a1, a0, a7, a8, a9, a10, a11] := by
  have h0 : List.Perm ([0, 1, 2, 3, 4, 5, 6, 7, 8, 9, 10, 11, 12] : List Nat) [3, 4, 5, 6, 12, 2, 1, 0, 7, 8, 9, 10, 11] := by decide
  have h := h0.map fun i : Nat => ([a0, a1, a2, a3, a4, a5, a6, a7, a8, a9, a10, a11, a12][i]?).getD a0
  simpa using h
structure I_Tidying_init where
  x : Addr
  c : Circ
structure Born (T : Tdy) (x : Addr) (c : Circ) : Prop where
  c : T.c = c
  a : T.a = x
  fr : T.fresh = []
  sp : T.spots = []
  ln : T.lines = []
  hs : T.m.hs = []
  ks : T.m.ks = []
  cs : T.m.cs = []
abbrev sp_Tidying_init (P : Program) (w : World) (CT CS CH : Addr) : Sp := spG (fun i : I_Tidying_init => [.raw (.ref i.x), .dat (enC i.c)]) (fun i _ _ => COk i.c) (fun i => [(i.x, .ins CT [] [])]) (fun i r cs => r = .dat .none ∧ ∃ T, Born T i.x i.c ∧ cs.Perm (tdC P w CT CS CH T))

abbrev N_Tidying_init : List Str := ["self", "circuit"]
theorem sc_Tidying_init : FnScope N_Tidying_init ["self", "circuit"] (defScope s_Tidying_init) := ⟨rfl, rfl, rfl, by decide +kernel, rfl, by decide +kernel, by decide +kernel⟩
theorem ok_Tidying_init {k : Nat} {f : Addr} {fd : FuncData} (F : FnP K "__init__" "Tidying.__init__" s_Tidying_init f fd) (T : Fx mg) {CT CS CH : Addr} (kt : KT K CT) (ks : KS K CS) (c_Senses : CalC P w K mg base k CS "Senses" ["self", "circuit", "reading"] (sp_Senses_init P w CS)) (c_Sheet : CalC P w K mg base k CH "Sheet" ["self", "ins"] (sp_Sheet_init CH)) (c_needed_senses : Cal P w K mg base k "needed_senses" ["circuit", "senses"] (sp_needed_senses P w CS)) (c_widest : Cal P w K mg base k "widest" ["circuit"] sp_widest) : FnOk P w K mg base CX0 (k + 1) f fd ["self", "circuit"] (sp_Tidying_init P w CT CS CH) := by
  refine F.ok sc_Tidying_init (spG_len fun _ => rfl) (fun cdv A outer s H vs Q E hr hsp => ?_)
  refine ⟨_, PSs.nox (pss_cons (ps_fld (pv 0) (pv 1) rfl)
    (pss_cons (ps_fld (pv 0) (pe_ccal c_Senses hr (by rfl) (pa_cons (pv 1) (pa_cons (pe_cal c_widest hr (by rfl) (pa_cons (pv 1) pa_nil)) pa_nil))) rfl)
    (pss_cons (ps_fld (pv 0) (pe_cal c_needed_senses hr (by rfl) (pa_cons (pv 1) (pa_cons (pe_fld (pv 0) rfl) pa_nil))) rfl)
    (pss_cons (ps_fld (pv 0) (pe_ccal c_Sheet hr (by rfl) (pa_cons (pe_ix ix_tup (pv 1) pe_int (fun _ _ => rfl)) pa_nil)) rfl)
    (pss_cons (ps_fld (pv 0) pe_dnewN rfl)
    (pss_cons (ps_fld (pv 0) pe_dnewN rfl)
    (pss_one (ps_fld (pv 0) pe_dnewK rfl)))))))), ?_⟩
  refine run_spG (P := P) (w := w) hsp ?_
  rintro ⟨x, c⟩ S H hc
  dsimp only at hc ⊢
  have hwi := widest_inv c
  refine se_seq (se_fldC (ns := []) kt.cls kt.circuit rfl (by decide) (ee_dat rfl ⟨(fun i z => nomatch z), ee_raw rfl ⟨S, H, _, _, 0, x, [], rfl, rfl, rfl, ?_⟩⟩))
  refine se_seq (se_fldC (ns := ["circuit"]) kt.cls kt.senses (by decide) (by decide) (ee_make (ea_cons (ee_dat rfl (ea_cons (ee_widest (ea_cons (ee_dat rfl (ea_nil ⟨c, rfl, hc, ea_nil ⟨S, H, _, _, rfl, fun s => ⟨⟨s, c, widestN c⟩, rfl, ?_, rfl, fun _ _ _ _ => ⟨hc, hwi.len, hwi.bits hc⟩, fun _ _ _ _ _ _ h => h, ?_⟩⟩⟩)))))))))
  · intro r' hr' j
    simp at hr'
    rcases hr' with rfl | rfl | rfl <;> exact fun z => nomatch z
  rintro r cs' ⟨rfl, t, l, n, rfl⟩
  refine ⟨rfl, (fun i z => nomatch z), ee_raw rfl ⟨S, H, _, _, 4, x, _, rfl, rfl, rfl, ?_⟩⟩
  have hS : HasS P w CS (Wd.sym S H [x] (senC P w CS s t l n (sensN c) ++ [(x, .ins CT ["circuit", "senses"] [.dat (enC c), .raw (.ref s)])])) s t l n (sensN c) := has_sen rfl rfl rfl rfl
  have h0 : Has (Wd.sym S H [x] (senC P w CS s t l n (sensN c) ++ [(x, .ins CT ["circuit", "senses"] [.dat (enC c), .raw (.ref s)])])) x (.ins CT ["circuit", "senses"] [.dat (enC c), .raw (.ref s)]) := has_cell (n := 4) rfl
  refine se_seq (se_fldC (ns := ["circuit", "senses"]) kt.cls kt.needed (by decide) (by decide) (ee_callG (hr := fun i r cs ⟨b, e, _⟩ j => by rw [e]; exact fun z => nomatch z) (ea_cons (ee_dat rfl (ea_cons (ee_f (ns := ["circuit", "senses"]) (j := 1) (by decide) (ee_raw rfl ⟨x, CT, _, _, rfl, h0, kt.cls, kt.senses, rfl, (fun i z => nomatch z), ea_nil ⟨⟨s, t, l, n, c⟩, S, H, _, senC P w CS s t l n (sensN c) ++ [(x, .ins CT ["circuit", "senses"] [.dat (enC c), .raw (.ref s)])], rfl, rfl, ?_, fun S2 H2 e2 hw => ⟨hS.now S2 H2 e2 hw, hc⟩, ?_⟩⟩)))))))
  · intro r' hr' j
    simp at hr'
    rcases hr' with rfl | rfl <;> exact fun z => nomatch z
  rintro r cs' - ⟨nd, rfl, rfl⟩
  refine ⟨(fun i z => nomatch z), ee_raw rfl ⟨S, H, _, _, 5, x, _, rfl, rfl, rfl, ?_⟩⟩
  refine se_seq (se_fldC (ns := ["circuit", "senses", "needed"]) kt.cls kt.sheet (by decide) (by decide) (ee_make (ea_cons (ee_op (ee_dat rfl (ee_lit (n_ixT rfl rfl (ea_nil ⟨S, H, _, _, rfl, fun sh => ⟨⟨sh, c.ins⟩, rfl, ?_, rfl, fun _ _ _ _ => trivial, fun _ _ _ _ _ _ h => h, ?_⟩⟩))))))))
  · intro r' hr' j
    simp at hr'
    rcases hr' with rfl | rfl <;> exact fun z => nomatch z
  rintro r cs' ⟨rfl, h, kk, cc, rfl⟩
  refine ⟨rfl, (fun i z => nomatch z), ee_raw rfl ⟨S, H, _, _, 9, x, _, rfl, rfl, rfl, ?_⟩⟩
  refine se_seq (se_fldND (ns := ["circuit", "senses", "needed", "sheet"]) (n := 9) kt.cls kt.fresh (by decide) (by decide) rfl rfl fun fr => ?_)
  refine se_seq (se_fldND (ns := ["circuit", "senses", "needed", "sheet", "fresh"]) (n := 10) kt.cls kt.spots (by decide) (by decide) rfl rfl fun sp => ?_)
  refine se_fldD (ns := ["circuit", "senses", "needed", "sheet", "fresh", "spots"]) (n := 11) kt.cls kt.lines (by decide) (by decide) rfl rfl fun ln => ?_
  exact ⟨_, rfl, rfl, ⟨c, x, s, t, l, n, nd, fr, sp, ln, ⟨sh, h, kk, cc, c.ins, [], [], []⟩, [], [], []⟩, ⟨rfl, rfl, rfl, rfl, rfl, rfl, rfl, rfl⟩, perm13 _ _ _ _ _ _ _ _ _ _ _ _ _⟩

abbrev sp_tidied : Sp := spX (fun c : Circ => [enC c]) (fun c => COk c) (fun c d => ∃ e, d = .tuple [enC (tidyN c), e])

abbrev N_tidied : List Str := ["circuit", "work", "made"]
theorem sc_tidied : FnScope N_tidied ["circuit"] (defScope s_tidied) := ⟨rfl, rfl, rfl, by decide +kernel, rfl, by decide +kernel, by decide +kernel⟩
theorem ok_tidied {k : Nat} {f : Addr} {fd : FuncData} (F : FnP K "tidied" "tidied" s_tidied f fd) (T : Fx mg) {CT CS CH : Addr} (kt : KT K CT) (c_Tidying : CalC P w K mg base k CT "Tidying" ["self", "circuit"] (sp_Tidying_init P w CT CS CH)) (c_Tidying_made : CalM P w K mg base k CT "made" ["self"] (sp_Tidying_made P w CT CS CH)) (c_Tidying_paper : CalM P w K mg base k CT "paper" ["self"] (sp_Tidying_paper P w CT CS CH)) : FnOk P w K mg base CX0 (k + 1) f fd ["circuit"] sp_tidied := by
  refine F.ok sc_tidied (spX_len fun _ => rfl) (fun cdv A outer s H vs Q E hr hsp => ?_)
  refine ⟨_, PSs.nox (pss_cons (ps_set (i := 1) sc_tidied.nd rfl (Or.inl rfl) (pe_ccal c_Tidying hr (by rfl) (pa_cons (pv 0) pa_nil)))
    (pss_cons (ps_set (i := 2) sc_tidied.nd rfl (Or.inl rfl) (pe_mcal0 (pv 1) c_Tidying_made hr))
    (pss_one (ps_ret (pe_tup (pa_cons (pv 2) (pa_cons (pe_mcal0 (pv 1) c_Tidying_paper hr) pa_nil))))))), ?_⟩
  refine run_spXS (P := P) (w := w) hsp ?_
  rintro c S H hc
  have hc : COk c := hc
  refine se_seq (se_setV (ee_make (ea_cons (ee_dat rfl (ea_nil ⟨S, H, _, _, rfl, fun x => ⟨⟨x, c⟩, rfl, ?_, rfl, fun _ _ _ _ => hc, fun _ _ _ _ _ _ h => h, ?_⟩⟩)))))
  · intro r' hr' j
    simp at hr'
    rcases hr' with rfl | rfl <;> exact fun z => nomatch z
  rintro r cs' ⟨rfl, T, hT, hp⟩
  refine ⟨rfl, _, rfl, ?_⟩
  have hp2 : (cs' ++ []).Perm (tdC P w CT CS CH T) := by rw [List.append_nil]; exact hp
  obtain ⟨tc, ta, tf, ts, tl, th, tk, tcs⟩ := hT
  dsimp only at tc ta
  subst tc ta
  refine se_perm hp2 ?_
  have hM : HasT P w CT CS T (Wd.sym S H [] (tdC P w CT CS CH T)) := has_tdn
  refine se_seq (se_set (ee_methW (fun i r cs hp j => by rw [hp.1]; exact fun z => nomatch z) (ee_raw rfl ⟨T.a, rfl, mth_of hM.h0 (by decide), ea_nil ⟨T, S, H, _, rfl, rfl, by simp, fun _ _ _ _ => ⟨hc, tf⟩, ?_⟩⟩)))
  rintro r cs - ⟨rfl, rfl⟩
  refine ⟨_, rfl, ?_⟩
  have hM2 : HasT P w CT CS (Tf T (mkN T.c).fr) (Wd.sym S H [] (tdC P w CT CS CH (Tf T (mkN T.c).fr))) := has_tdn
  refine se_retD (ee_tup (ea_cons (ee_dat rfl (ea_cons (ee_methW (fun i r cs ⟨d, e⟩ j => by rw [e]; exact fun z => nomatch z) (ee_raw rfl ⟨T.a, rfl, mth_of hM2.h0 (by decide), ea_nil ⟨Tf T (mkN T.c).fr, S, H, _, rfl, rfl, by simp, fun _ _ _ _ => ⟨hc, rfl, ts, tl, th, tk, tcs⟩, ?_⟩⟩))))))
  rintro r cs - ⟨d, rfl⟩
  exact ea_nil ⟨[_, _], rfl, (by show 2 ≤ sizeLine; decide), _, rfl, ⟨_, rfl⟩, _, rfl, d, rfl⟩

end
end G
set_option Elab.async false
set_option linter.all false
set_option maxRecDepth 100000
set_option maxHeartbeats 4000000
set_option autoImplicit false
/-! Cells of a family opened and closed; a new list that becomes a cell; pop(0). -/
namespace D
open PySem PySem.Spec PyProof.Rows L2
section
variable {P : Program} {w : World} {K : PySem.W.Frag} {S0 H0 S H : Hp} {M : List Addr} {cs : Cells} {δ : List AS} {σ : L2.St} {p : Po} {ts : TS} {te to ti : TE} {Ω : Wd} {R : KR} {n : Nat} {a : Addr}
theorem Good.recell {c c' : Cell} {o : HO} (g : Good P w (Wd.sym S0 H0 M cs) δ σ S H) (hn : cs[n]? = some (a, c)) (ha : H a = some o) (ho : c'.ok S o) :
    Good P w (Wd.sym S0 H0 M (cs.set n (a, c'))) δ σ S H ∧ Step (Wd.sym S0 H0 M cs) δ σ S H (Wd.sym S0 H0 M (cs.set n (a, c'))) δ σ S H := by
  obtain ⟨g1, s1⟩ := g.cell (c' := c') (o := o) hn ho
  have e : upd H a o = H := by
    funext q
    by_cases h : q = a
    · rw [h, upd_same, ha]
    · rw [upd_ne h]
  rw [e] at g1 s1
  exact ⟨g1, s1⟩
theorem se_open {ι : Type} {c : ι → Cell} {q : ι → Prop} (hn : cs[n]? = some (a, .any c q)) (h : ∀ i, q i → SE P w ts (Wd.sym S0 H0 M (cs.set n (a, c i))) δ p) : SE P w ts (Wd.sym S0 H0 M cs) δ p := fun σ S H g D k => by
  obtain ⟨_, o, ha, i, hi, ho⟩ := cell_at g.wld.2.2.1 hn
  obtain ⟨g1, s1⟩ := g.recell hn ha ho
  exact h i hi σ S H g1 D (k.step s1)
theorem ee_close {ι : Type} {c : ι → Cell} {q : ι → Prop} (h : EE P w te Ω δ fun r Ω1 δ1 => ∃ S0 H0 M cs n a i, Ω1 = Wd.sym S0 H0 M cs ∧ cs[n]? = some (a, c i) ∧ q i ∧ R r (Wd.sym S0 H0 M (cs.set n (a, .any c q))) δ1) : EE P w te Ω δ R := fun σ S H g Q k =>
  h σ S H g _ fun v r Ω1 δ1 S1 H1 h1 g1 s1 o1 => by
    obtain ⟨S0, H0, M, cs, n, a, i, rfl, hn, hi, z⟩ := h1
    obtain ⟨_, o, ha, ho⟩ := cell_at g1.wld.2.2.1 hn
    obtain ⟨g2, s2⟩ := g1.recell (c' := .any c q) hn ha ⟨i, hi, ho⟩
    exact k v r _ δ1 S1 H1 z g2 (s1.trans s2) o1
/-- a new list becomes a cell -/
theorem ee_newC (h : EN P w te Ω δ fun ds Ω1 δ1 => ∃ S0 H0 M cs, Ω1 = Wd.sym S0 H0 M cs ∧ ∀ b, ∃ c : Cell, (∀ S o, (Cell.lst ds).ok S o → c.ok S o) ∧ R (.raw (.ref b)) (Wd.sym S0 H0 M ((b, c) :: cs)) δ1) : EE P w te Ω δ R := fun σ S H g Q k =>
  h σ S H g _ fun b xs ds Ω1 δ1 S1 H1 h1 g1 s1 hb hb1 hbS hbT hd => by
    obtain ⟨S0, H0, M, cs, rfl, z⟩ := h1
    obtain ⟨c, hc, z⟩ := z b
    exact k (.ref b) (.raw (.ref b)) _ δ1 S1 H1 z (g1.cellNew hb1 hbS hbT (hc _ _ ⟨xs, rfl, hd⟩)) (s1.cellNew hb) rfl
theorem se_popAtC {ta : TE} (h : EE P w ta Ω δ fun r Ω1 δ1 => ∃ S0 H0 M cs n a d ds, Ω1 = Wd.sym S0 H0 M cs ∧ r = .raw (.ref a) ∧ cs[n]? = some (a, .lst (d :: ds)) ∧ p.nx (Wd.sym S0 H0 M (cs.set n (a, .lst ds))) δ1) : SE P w (tDrop (tBM K "list" rPopAt ta (tCons (tC (.int 0)) tNil))) Ω δ p := fun σ S H g D q =>
  h σ S H g _ fun x r Ω1 δ1 S1 H1 h1 g1 s1 o1 => by
    obtain ⟨S0, H0, M, cs, n, a, d, ds, rfl, rfl, hn, z⟩ := h1
    cases (show x = .ref a from o1)
    obtain ⟨hS, o, e1, xs, rfl, e2⟩ := cell_at g1.wld.2.2.1 hn
    cases e2 with
    | cons h0 t0 =>
      rename_i v vs
      obtain ⟨g4, s4⟩ := g1.cell (c' := .lst ds) (o := .lst vs) hn ⟨_, rfl, t0⟩
      refine ⟨.inl ⟨rfl, _, SqL.of e1⟩, a, _, 0, 0, v, rfl, rfl, e1, by decide, by decide, ?_, rfl, q.nx _ _ _ _ _ z g4 (s1.trans s4)⟩
      unfold seqIndex?
      simp
end
end D
set_option Elab.async false
set_option linter.all false
set_option maxRecDepth 100000
set_option maxHeartbeats 4000000
set_option autoImplicit false
/-! The script's list: it may lie in the text. -/
namespace D
open PySem PySem.Spec PyProof.Rows L2
theorem sql_keep {K : PySem.W.Frag} {H H' : Hp} {a : Addr} {xs : List V} (h : SqL K H a xs) (k : ∀ o, H a = some o → H' a = some o) : SqL K H' a xs := by
  rcases h with h | h
  · refine .inl ?_
    rcases h with h | ⟨o, h⟩
    · exact .inl (k _ h)
    · exact .inr ⟨o, k _ h⟩
  · exact .inr h
/-- the ints of a list that stands somewhere -/
def HasL (K : PySem.W.Frag) (Ω : Wd) (a : Addr) (ns : List Int) : Prop := ∀ S H, Same S H → Ω.W S H → SqL K H a (ns.map V.int)
section
variable {P : Program} {w : World} {K : PySem.W.Frag} {S0 H0 S H : Hp} {M : List Addr} {cs : Cells} {δ : List AS} {te : TE} {Ω : Wd} {R : KR} {RN : List PyData → Wd → List AS → Prop} {a : Addr} {ns : List Int}
theorem hasL_old (h : SqL K H a (ns.map V.int)) : HasL K (Wd.sym S H [] cs) a ns := fun S' H' _ hw => sql_keep h fun o e => (hw.2.1 a o e (by simp)).1
theorem en_slH {tl th : TO} (h : EE P w te Ω δ fun r Ω1 δ1 => EO P w tl Ω1 δ1 fun lo Ω2 δ2 => EO P w th Ω2 δ2 fun hi Ω3 δ3 => ∃ a ns, r = .raw (.ref a) ∧ HasL K Ω3 a ns ∧ RN (cutD (ns.map PyData.int) lo hi) Ω3 δ3) : EN P w (tSl (rSlL K) te tl th) Ω δ RN := fun σ S H g Q q =>
  h σ S H g _ fun x r1 Ω1 δ1 S1 H1 h1 g1 s1 o1 => h1 σ S1 H1 g1 _ fun lo Ω2 δ2 S2 H2 h2 g2 s2 => h2 σ S2 H2 g2 _ fun hi Ω3 δ3 S3 H3 h3 g3 s3 => by
    obtain ⟨a, ns, rfl, hs, h3⟩ := h3
    cases (show x = .ref a from o1)
    exact ⟨a, _, rfl, hs S3 H3 g3.sub g3.wld, en_lay (PostN.step (PostN.step (PostN.step q s1) s2) s3) g3 (DqAll.cut (DqAll.ofInts ns) lo hi) h3⟩
theorem cut_ints (ns : List Int) (n : Nat) : cutD (ns.map PyData.int) none (some (n : Int)) = (ns.take n).map PyData.int := by
  rw [cutD_take, List.map_take]
end
end D
set_option Elab.async false
set_option linter.all false
set_option maxRecDepth 100000
set_option maxHeartbeats 4000000
set_option autoImplicit false
namespace G
open PySem PySem.Spec PyProof.Rows L2 D M
local macro_rules | `(tactic| walk_at "d1") => `(tactic| first
  | (with_reducible refine se_seq ?_)
  | (with_reducible refine se_next ?_)
  | (with_reducible refine se_set ?_)
  | (with_reducible refine se_retD ?_)
  | (with_reducible refine se_if ?_)
  | (with_reducible refine ee_lit ?_)
  | (with_reducible refine ee_int ?_)
  | (with_reducible refine ee_str ?_)
  | (with_reducible refine ee_bl ?_)
  | (with_reducible refine ee_non ?_)
  | (with_reducible refine ee_op ?_)
  | (with_reducible refine ee_tup ?_)
  | (with_reducible refine ee_cb ?_)
  | (with_reducible refine et_test ?_)
  | (with_reducible refine ea_nil ?_)
  | (with_reducible refine ea_cons ?_)
  | ((with_reducible refine' ee_dat ?e ?_); (case e => rfl))
  | ((with_reducible refine' ee_own ?e ?_); (case e => rfl))
  | ((with_reducible refine' ee_raw ?e ?_); (case e => rfl))
  | ((with_reducible refine' n_and ?ha ?hb ?_); (case ha => rfl); (case hb => rfl))
  | ((with_reducible refine' n_or ?ha ?hb ?_); (case ha => rfl); (case hb => rfl))
  | ((with_reducible refine' n_xor ?ha ?hb ?_); (case ha => rfl); (case hb => rfl))
  | ((with_reducible refine' n_add ?ha ?hb ?_); (case ha => rfl); (case hb => rfl))
  | ((with_reducible refine' n_sub ?ha ?hb ?hc ?_); (case ha => rfl); (case hb => rfl); (case hc => first | omega | assumption | decide))
  | ((with_reducible refine' n_mul ?ha ?hb ?hc ?_); (case ha => rfl); (case hb => rfl); (case hc => first | omega | assumption | decide))
  | ((with_reducible refine' n_shr ?ha ?hb ?_); (case ha => rfl); (case hb => rfl))
  | ((with_reducible refine' n_shl ?ha ?hb ?hc ?hd ?_); (case ha => rfl); (case hb => rfl); (case hc => first | omega | assumption | decide); (case hd => first | omega | assumption | decide))
  | ((with_reducible refine' n_lt ?ha ?hb ?_); (case ha => rfl); (case hb => rfl))
  | ((with_reducible refine' n_gt ?ha ?hb ?_); (case ha => rfl); (case hb => rfl))
  | ((with_reducible refine' n_eq ?ha ?hb ?_); (case ha => rfl); (case hb => rfl))
  | ((with_reducible refine' n_ne ?ha ?hb ?_); (case ha => rfl); (case hb => rfl))
  | (with_reducible refine ⟨_, rfl, ?_⟩)
  | (with_reducible refine ⟨_, _, rfl, ?_⟩)
  | (with_reducible refine ⟨_, _, _, rfl, ?_⟩)
  | (with_reducible refine ⟨_, _, _, _, rfl, ?_⟩)
  | exact ⟨rfl, _, rfl, rfl⟩)
local macro_rules | `(tactic| walk_at "d") => `(tactic| (repeat (walk_at "d1")))
section
variable {P : Program} {w : World} {K : PySem.W.Frag} {mg : Str → Option Value} {base : Heap}
/-! the law's own numbers -/
def stP (q : List Int × Int) : Prop := (∀ n ∈ q.1, 0 ≤ n) ∧ 0 ≤ q.2 ∧ q.2 < 2305843009213693951
abbrev stL (q : List Int × Int) : Cell := .lst ((q.1 ++ [q.2]).map PyData.int)
abbrev stC : Cell := .any stL stP
structure I_next where
  a : Addr
  many : Nat
abbrev sp__law_next : Sp := spG (fun i : I_next => [.raw (.ref i.a), .dat (nI i.many)]) (fun i _ _ => 0 < i.many ∧ i.many < 1000000) (fun i => [(i.a, stC)]) (fun i r cs => ∃ v, r = .dat (nI v) ∧ v < i.many ∧ cs = [(i.a, stC)])
theorem ee_next {Ω : Wd} {δ : List AS} {R : KR} {ta : TA} {E : XK} (h : EA P w ta Ω δ fun rs Ω1 δ1 => ∃ S0 H0 M a many, Ω1 = Wd.sym S0 H0 M [(a, stC)] ∧ rs = [.raw (.ref a), .dat (nI many)] ∧ 0 < many ∧ many < 1000000 ∧ ∀ v, v < many → R (.dat (nI v)) Ω1 δ1) : EE P w (tCall sp__law_next [] E ta) Ω δ R :=
  ee_callG (h.imp fun rs Ω1 δ1 ⟨S0, H0, M, a, many, e1, e2, h1, h2, z⟩ => ⟨⟨a, many⟩, S0, H0, M, [], e1, e2, by simp, fun _ _ _ _ => ⟨h1, h2⟩, fun r cs _ ⟨v, e3, hv, e4⟩ => by
    subst e3 e4
    have := z v hv
    rw [e1] at this
    exact this⟩) fun i r cs ⟨v, e, _⟩ j => by rw [e]; exact fun z => nomatch z
theorem modN {n : Int} {m : Nat} (hm : 0 < m) : n % (m : Int) = ((n % (m : Int)).toNat : Int) ∧ (n % (m : Int)).toNat < m := by
  have h1 : 0 ≤ n % (m : Int) := Int.emod_nonneg n (by omega)
  have h2 : n % (m : Int) < m := Int.emod_lt_of_pos n (by omega)
  exact ⟨(Int.toNat_of_nonneg h1).symm, by omega⟩

abbrev N__law_next : List Str := ["_law_state_here", "_law_many", "_law_found"]
theorem sc__law_next : FnScope N__law_next ["_law_state_here", "_law_many"] (defScope s__law_next) := ⟨rfl, rfl, rfl, by decide +kernel, rfl, by decide +kernel, by decide +kernel⟩
theorem ok__law_next {k : Nat} {f : Addr} {fd : FuncData} (F : FnP K "_law_next" "_law_next" s__law_next f fd) (T : Fx mg) : FnOk P w K mg base CX0 (k + 1) f fd ["_law_state_here", "_law_many"] sp__law_next := by
  refine F.ok sc__law_next (spG_len fun _ => rfl) (fun cdv A outer s H vs Q E hr hsp => ?_)
  refine ⟨_, PSs.nox (pss_cons (ps_if (pt_cmpR op_gt (pe_callB call_len2 (by rfl) T.len PySem.boot_len (pa_cons (pv 0) pa_nil)) pe_int (nomark _))
    (pss_cons (ps_set (i := 2) sc__law_next.nd rfl (Or.inl rfl) (pe_op op_mod (pe_ix ix_list (pv 0) pe_int (fun _ _ => rfl)) (pv 1)))
    (pss_cons (ps_asg (pe_op op_fdiv (pe_ix ix_list (pv 0) pe_int (fun _ _ => rfl)) (pv 1)) (pg_sub (pv 0) pe_int set_list))
    (pss_cons (ps_if (pt_cmpR (op_eqD hr.units) (pe_ix ix_list (pv 0) pe_int (fun _ _ => rfl)) pe_int (nomark _))
    (pss_one (ps_expr (pe_bm PySem.F.plainAttrs_list PySem.F.slot_list_pop PySem.F.type_list_pop mt_popAt (pv 0) (pa_cons pe_int pa_nil))))
    pss_nil)
    (pss_one (ps_ret (pv 2))))))
    pss_nil)
    (pss_cons (ps_asg (pe_op op_mod (pe_op op_add (pe_op op_mul (pe_ix ix_list (pv 0) pe_int (fun _ _ => rfl)) pe_int) pe_int) pe_int) (pg_sub (pv 0) pe_int set_list))
    (pss_one (ps_ret (pe_op op_mod (pe_op op_fdiv (pe_ix ix_list (pv 0) pe_int (fun _ _ => rfl)) pe_int) (pv 1)))))), ?_⟩
  refine run_spG (P := P) (w := w) hsp ?_
  rintro ⟨a, many⟩ S H ⟨h1, h2⟩
  dsimp only at h1 h2 ⊢
  have cm : (0 : Int) < (many : Int) := by omega
  have cd : CDiv 0 (many : Int) := ⟨cm, by omega⟩
  refine se_open (n := 0) rfl fun ⟨big, s⟩ ⟨hb, hs0, hs1⟩ => ?_
  have hH : Has (Wd.sym S H [a] [(a, stL (big, s))]) a (.lst ((big ++ [s]).map PyData.int)) := has_cell (n := 0) rfl
  refine se_seq (se_if (et_test (ee_op (ee_cb (ea_cons (ee_raw rfl (ea_nil (cb_lenH hH ?_))))))))
  rw [List.length_map, List.length_append, List.length_singleton]
  refine ee_lit (n_gt rfl rfl ⟨_, rfl, fun hl => ?_, fun hl => ?_⟩)
  · have hl : 1 < big.length + 1 := of_decide_eq_true hl
    cases big with
    | nil => simp at hl
    | cons n r =>
      have hn := hb n (by simp)
      have hr : ∀ x ∈ r, 0 ≤ x := fun x hx => hb x (by simp [hx])
      obtain ⟨m1, m2⟩ := modN (n := n) h1
      refine se_seq (se_set (ee_op (ee_op (ee_raw rfl (ee_int (o2_ixH hH (b := 0) rfl rfl (ee_dat rfl (o2_i cm ⟨_, rfl, ?_⟩))))))))
      refine se_seq (se_setItC (ee_op (ee_op (ee_raw rfl (ee_int (o2_ixH hH (b := 0) rfl rfl (ee_dat rfl (o2_i (show CDiv n (many : Int) from cd) (ee_raw rfl (ee_int ⟨S, H, _, _, 0, a, _, _, 0, rfl, rfl, rfl, rfl, rfl, by simp, ?_⟩))))))))))
      have hdn : 0 ≤ n / (many : Int) := Int.ediv_nonneg hn (by omega)
      have hH2 : Has (Wd.sym S H [a] [(a, stL (n / (many : Int) :: r, s))]) a (.lst ((n / (many : Int) :: r ++ [s]).map PyData.int)) := has_cell (n := 0) rfl
      show SE P w _ (Wd.sym S H [a] [(a, stL (n / (many : Int) :: r, s))]) _ _
      have fin : ∀ (po : Po) (q : List Int × Int), stP q → (∀ v, v < many → po.rt (.dat (nI v)) (Wd.sym S H [a] [(a, stC)])) → SE P w (tRet (tVar 2)) (Wd.sym S H [a] [(a, stL q)]) [.raw (.ref a), .dat (nI many), .dat (.int (n % (many : Int)))] po := fun po q hq hpo => by
        refine se_ret (ee_close (c := stL) (q := stP) (ee_dat rfl ⟨S, H, _, _, 0, a, q, rfl, rfl, hq, (fun i z => nomatch z), ?_⟩))
        rw [m1]
        exact hpo _ m2
      have rt : ∀ v, v < many → ∃ cs, Wd.sym S H [a] [(a, stC)] = Wd.sym S H [a] cs ∧ (∀ j, Rs.dat (nI v) ≠ .own j) ∧ ∃ v', Rs.dat (nI v) = .dat (nI v') ∧ v' < many ∧ cs = [(a, stC)] := fun v hv => ⟨_, rfl, (fun i z => nomatch z), v, rfl, hv, rfl⟩
      refine se_seq (se_if (et_test (ee_op (ee_op (ee_raw rfl (ee_int (o2_ixH hH2 (b := 0) rfl rfl (ee_int (o2_eqI ⟨_, rfl, fun _ => ?_, fun _ => ?_⟩)))))))))
      · exact se_popAtC (ee_raw rfl ⟨S, H, _, _, 0, a, _, _, rfl, rfl, rfl, fin _ (r, s) ⟨hr, hs0, hs1⟩ rt⟩)
      · exact se_next (fin _ (n / (many : Int) :: r, s) ⟨fun x hx => by
          rcases List.mem_cons.mp hx with z | z
          · rw [z]
            exact hdn
          · exact hr x z, hs0, hs1⟩ rt)
  · have hl : ¬ 1 < big.length + 1 := of_decide_eq_false hl
    obtain rfl : big = [] := List.eq_nil_of_length_eq_zero (by omega)
    refine se_next ?_
    refine se_seq (se_setItC (ee_op (ee_op (ee_op (ee_op (ee_raw rfl (ee_int (o2_ixH hH (b := 0) rfl rfl (ee_int (o2_i (.inl ⟨by omega, by omega⟩) (ee_int (o2_i0 (ee_int (o2_i (show (0 : Int) < 2305843009213693951 by decide) (ee_raw rfl (ee_int ⟨S, H, _, _, 0, a, _, _, 0, rfl, rfl, rfl, rfl, rfl, by simp, ?_⟩))))))))))))))))
    generalize hs' : (s * 1181783497276652981 + 12345678910987) % 2305843009213693951 = s'
    have h3 : 0 ≤ s' ∧ s' < 2305843009213693951 := by omega
    have hH2 : Has (Wd.sym S H [a] [(a, stL ([], s'))]) a (.lst ((([] : List Int) ++ [s']).map PyData.int)) := has_cell (n := 0) rfl
    show SE P w _ (Wd.sym S H [a] [(a, stL ([], s'))]) _ _
    obtain ⟨m1, m2⟩ := modN (n := s' / 65537) h1
    refine se_ret (ee_close (c := stL) (q := stP) (ee_op (ee_op (ee_op (ee_raw rfl (ee_int (o2_ixH hH2 (b := 0) rfl rfl (ee_int ?_))))))))
    refine o2_i (show CDiv s' 65537 from ⟨by decide, by decide⟩) ?_
    refine ee_dat rfl ?_
    refine o2_i cm ?_
    refine ⟨S, H, _, _, 0, a, ([], s'), rfl, rfl, ⟨fun _ z => (nomatch z), h3.1, h3.2⟩, (fun i z => nomatch z), ?_⟩
    rw [m1]
    exact ⟨_, rfl, (fun i z => nomatch z), _, rfl, m2, rfl⟩

end
end G
set_option Elab.async false
set_option linter.all false
set_option maxRecDepth 100000
set_option maxHeartbeats 4000000
set_option autoImplicit false
namespace G
open PySem PySem.Spec PyProof.Rows L2 D M
local macro_rules | `(tactic| walk_at "d1") => `(tactic| first
  | (with_reducible refine se_seq ?_)
  | (with_reducible refine se_next ?_)
  | (with_reducible refine se_set ?_)
  | (with_reducible refine se_retD ?_)
  | (with_reducible refine se_if ?_)
  | (with_reducible refine ee_lit ?_)
  | (with_reducible refine ee_int ?_)
  | (with_reducible refine ee_str ?_)
  | (with_reducible refine ee_bl ?_)
  | (with_reducible refine ee_non ?_)
  | (with_reducible refine ee_op ?_)
  | (with_reducible refine ee_tup ?_)
  | (with_reducible refine ee_cb ?_)
  | (with_reducible refine et_test ?_)
  | (with_reducible refine ea_nil ?_)
  | (with_reducible refine ea_cons ?_)
  | ((with_reducible refine' ee_dat ?e ?_); (case e => rfl))
  | ((with_reducible refine' ee_own ?e ?_); (case e => rfl))
  | ((with_reducible refine' ee_raw ?e ?_); (case e => rfl))
  | ((with_reducible refine' n_and ?ha ?hb ?_); (case ha => rfl); (case hb => rfl))
  | ((with_reducible refine' n_or ?ha ?hb ?_); (case ha => rfl); (case hb => rfl))
  | ((with_reducible refine' n_xor ?ha ?hb ?_); (case ha => rfl); (case hb => rfl))
  | ((with_reducible refine' n_add ?ha ?hb ?_); (case ha => rfl); (case hb => rfl))
  | ((with_reducible refine' n_sub ?ha ?hb ?hc ?_); (case ha => rfl); (case hb => rfl); (case hc => first | omega | assumption | decide))
  | ((with_reducible refine' n_mul ?ha ?hb ?hc ?_); (case ha => rfl); (case hb => rfl); (case hc => first | omega | assumption | decide))
  | ((with_reducible refine' n_shr ?ha ?hb ?_); (case ha => rfl); (case hb => rfl))
  | ((with_reducible refine' n_shl ?ha ?hb ?hc ?hd ?_); (case ha => rfl); (case hb => rfl); (case hc => first | omega | assumption | decide); (case hd => first | omega | assumption | decide))
  | ((with_reducible refine' n_lt ?ha ?hb ?_); (case ha => rfl); (case hb => rfl))
  | ((with_reducible refine' n_gt ?ha ?hb ?_); (case ha => rfl); (case hb => rfl))
  | ((with_reducible refine' n_eq ?ha ?hb ?_); (case ha => rfl); (case hb => rfl))
  | ((with_reducible refine' n_ne ?ha ?hb ?_); (case ha => rfl); (case hb => rfl))
  | (with_reducible refine ⟨_, rfl, ?_⟩)
  | (with_reducible refine ⟨_, _, rfl, ?_⟩)
  | (with_reducible refine ⟨_, _, _, rfl, ?_⟩)
  | (with_reducible refine ⟨_, _, _, _, rfl, ?_⟩)
  | exact ⟨rfl, _, rfl, rfl⟩)
local macro_rules | `(tactic| walk_at "d") => `(tactic| (repeat (walk_at "d1")))
section
variable {P : Program} {w : World} {K : PySem.W.Frag} {mg : Str → Option Value} {base : Heap}
structure I_state where
  a : Addr
  ns : List Int
abbrev sp__law_state (K : PySem.W.Frag) : Sp := spG (fun i : I_state => [.raw (.ref i.a)]) (fun i S H => SqL K H i.a (i.ns.map V.int) ∧ i.ns.length ≤ 63) (fun _ => []) (fun i r cs => ∃ b, r = .raw (.ref b) ∧ cs = [(b, stC)])
theorem absI (n : Int) : 0 ≤ (if n < 0 then -n else n) := by
  split <;> omega

abbrev N__law_state : List Str := ["_law_script", "_law_seed", "_law_cell"]
theorem sc__law_state : FnScope N__law_state ["_law_script"] (defScope s__law_state) := ⟨rfl, rfl, rfl, by decide +kernel, rfl, by decide +kernel, by decide +kernel⟩
theorem ok__law_state {k : Nat} {f : Addr} {fd : FuncData} (F : FnP K "_law_state" "_law_state" s__law_state f fd) (T : Fx mg) : FnOk P w K mg base CX0 (k + 1) f fd ["_law_script"] (sp__law_state K) := by
  refine F.ok sc__law_state (spG_len fun _ => rfl) (fun cdv A outer s H vs Q E hr hsp => ?_)
  refine ⟨_, PSs.nox (pss_cons (ps_set (i := 1) sc__law_state.nd rfl (Or.inl rfl) pe_int)
    (pss_cons (ps_for PassesOwn.never rfl (pi_list (pe_slice sl_list (pv 0) po_none (po_some pe_int))) (pg_name (i := 2) sc__law_state.nd rfl (Or.inl rfl))
    (pss_one (ps_set (i := 1) sc__law_state.nd rfl (Or.inl rfl) (pe_op op_mod (pe_op op_add (pe_op op_add (pe_op op_mul (pv 1) pe_int) (pe_op op_mod (pv 2) (pe_op op_pow pe_int pe_int))) pe_int) pe_int))))
    (pss_one (ps_ret (pe_op op_cat (pe_lc (own := [("_law_cell", 2)]) (g := gName 2) (by rfl) sc__law_state.nd (pi_list (pe_slice sl_list (pv 0) po_none (po_some pe_int))) (blkOk_by (own := [("_law_cell", 2)]) (N := N__law_state) (sc := defScope s__law_state) (by decide +kernel)) (fun _ _ _ _ _ => pg_name (i := 2) sc__law_state.nd rfl (Or.inl rfl)) (fun _ _ _ _ _ => pts_one (pt_cmpR op_ge (pe_callB call_abs' (by rfl) T.abs (by decide +kernel) (pa_cons (pv 2) pa_nil)) (pe_op op_pow pe_int pe_int) (nomark _))) (fun _ _ _ _ _ => pe_callB call_abs' (by rfl) T.abs (by decide +kernel) (pa_cons (pv 2) pa_nil))) (pe_lst (pa_cons (pv 1) pa_nil))))))), ?_⟩
  refine run_spG (P := P) (w := w) hsp ?_
  rintro ⟨a, ns⟩ S H ⟨hq, hl⟩
  dsimp only at hq hl ⊢
  have hcut : cutD (ns.map PyData.int) none (some 63) = (ns.take 63).map PyData.int := cut_ints ns 63
  have htk : (ns.take 63).length ≤ 63 := by rw [List.length_take]; omega
  refine se_seq (se_set (ee_int ⟨_, rfl, ?_⟩))
  refine se_seq (se_forX (ns.take 63) PyData.int (fun r Ω' δ' => Ω' = Wd.sym S H [] [] ∧ ∃ s a1, 0 ≤ s ∧ s < 2305843009213693951 ∧ AS.mine a1 = false ∧ δ' = [.raw (.ref a), .dat (.int s), a1]) (es_list (ee_new (en_slH (ee_raw rfl (eo_none (eo_some (ee_int ⟨63, rfl, a, ns, rfl, hasL_old hq, _, rfl, hcut, ⟨rfl, 1000003, .un, by decide, by decide, rfl, rfl⟩, ?_, ?_⟩))))))))
  · rintro pre n r Ω' δ' - ⟨rfl, s, a1, h1, h2, -, rfl⟩
    refine ⟨_, gs_name, ?_⟩
    refine se_set (ee_op (ee_op (ee_op (ee_op (ee_dat rfl (ee_int (o2_i (.inr ⟨by decide, by decide⟩) (ee_op (ee_dat rfl (ee_op (ee_int (ee_int (o2_i (show CPow 10 30 from ⟨by decide, by decide, by decide⟩) (o2_i (show (0 : Int) < 10 ^ (30 : Int).toNat by decide) ?_))))))))))))))
    refine o2_i0 (ee_int (o2_i0 (ee_int (o2_i (show (0 : Int) < 2305843009213693951 by decide) ⟨_, rfl, rfl, _, .dat (.int n), ?_, ?_, rfl, rfl⟩))))
    · exact Int.emod_nonneg _ (by decide)
    · exact Int.emod_lt_of_pos _ (by decide)
  rintro Ω' δ' ⟨rfl, s, a1, h1, h2, hmi, rfl⟩
  have hnm : (!a1.mine && true) = true := by rw [hmi]; rfl
  refine se_ret (ee_newC (en_cat (ee_new (en_filtX (ns.take 63) PyData.int (fun n => .int (if n < 0 then -n else n)) (fun n => decide (10 ^ (18 : Int).toNat ≤ (if n < 0 then -n else n))) (es_list (ee_new (en_slH (ee_raw rfl (eo_none (eo_some (ee_int ⟨63, rfl, a, ns, rfl, hasL_old hq, _, rfl, hcut, hnm, Nat.lt_of_le_of_lt htk (by decide), ?_, ee_new (en_lst (ea_cons (ee_dat rfl (ea_nil ⟨[_], rfl, (by show 1 ≤ sizeLine; decide), _, _, rfl, rfl, ?_, S, H, [], [], rfl, fun b => ⟨stC, ?_, (fun i z => nomatch z), _, rfl, (fun i z => nomatch z), b, rfl, rfl⟩⟩))))⟩)))))))))))
  · intro n hn
    refine ⟨_, gs_name, rfl, et_test (ee_op (ee_cb (ea_cons (ee_dat rfl (ea_nil (cb_abs (ee_op (ee_int (ee_int (o2_i (show CPow 10 18 from ⟨by decide, by decide, by decide⟩) (o2_b0 ⟨_, rfl, rfl, rfl, rfl, fun _ => ee_cb (ea_cons (ee_dat rfl (ea_nil (cb_abs ⟨rfl, rfl, rfl⟩))))⟩)))))))))))⟩
  · rw [List.length_map]
    have := List.length_filter_le (fun n : Int => decide (10 ^ (18 : Int).toNat ≤ (if n < 0 then -n else n))) (ns.take 63)
    exact Nat.le_trans (show _ ≤ 64 by simp only [List.length_singleton]; omega) (by decide)
  · rintro S' o ⟨xs, rfl, hd⟩
    refine ⟨(((ns.take 63).filter fun n => decide (10 ^ (18 : Int).toNat ≤ (if n < 0 then -n else n))).map fun n => if n < 0 then -n else n, s), ⟨fun x hx => ?_, h1, h2⟩, xs, rfl, ?_⟩
    · obtain ⟨n, _, rfl⟩ := List.mem_map.mp hx
      exact absI n
    · rw [List.map_append, List.map_map]
      exact hd

structure I_some where
  a : Addr
  row : List Nat
abbrev sp__law_some : Sp := spG (fun i : I_some => [.raw (.ref i.a), .dat (nL i.row)]) (fun i _ _ => 0 < i.row.length ∧ i.row.length < 1000000) (fun i => [(i.a, stC)]) (fun i r cs => ∃ v, r = .dat (nI v) ∧ v ∈ i.row ∧ cs = [(i.a, stC)])
theorem ee_some {Ω : Wd} {δ : List AS} {R : KR} {ta : TA} {E : XK} (h : EA P w ta Ω δ fun rs Ω1 δ1 => ∃ S0 H0 M a row, Ω1 = Wd.sym S0 H0 M [(a, stC)] ∧ rs = [.raw (.ref a), .dat (nL row)] ∧ 0 < row.length ∧ row.length < 1000000 ∧ ∀ v, v ∈ row → R (.dat (nI v)) Ω1 δ1) : EE P w (tCall sp__law_some [] E ta) Ω δ R :=
  ee_callG (h.imp fun rs Ω1 δ1 ⟨S0, H0, M, a, row, e1, e2, h1, h2, z⟩ => ⟨⟨a, row⟩, S0, H0, M, [], e1, e2, by simp, fun _ _ _ _ => ⟨h1, h2⟩, fun r cs _ ⟨v, e3, hv, e4⟩ => by
    subst e3 e4
    have := z v hv
    rw [e1] at this
    exact this⟩) fun i r cs ⟨v, e, _⟩ j => by rw [e]; exact fun z => nomatch z

abbrev N__law_some : List Str := ["_law_state_here", "_law_row"]
theorem sc__law_some : FnScope N__law_some ["_law_state_here", "_law_row"] (defScope s__law_some) := ⟨rfl, rfl, rfl, by decide +kernel, rfl, by decide +kernel, by decide +kernel⟩
theorem ok__law_some {k : Nat} {f : Addr} {fd : FuncData} (F : FnP K "_law_some" "_law_some" s__law_some f fd) (T : Fx mg) (c__law_next : Cal P w K mg base k "_law_next" ["_law_state_here", "_law_many"] sp__law_next) : FnOk P w K mg base CX0 (k + 1) f fd ["_law_state_here", "_law_row"] sp__law_some := by
  refine F.ok sc__law_some (spG_len fun _ => rfl) (fun cdv A outer s H vs Q E hr hsp => ?_)
  refine ⟨_, PSs.nox (pss_one (ps_ret (pe_ix ix_list (pv 1) (pe_cal c__law_next hr (by rfl) (pa_cons (pv 0) (pa_cons (pe_callB call_len2 (by rfl) T.len PySem.boot_len (pa_cons (pv 1) pa_nil)) pa_nil))) (fun _ _ => rfl)))), ?_⟩
  refine run_spG (P := P) (w := w) hsp ?_
  rintro ⟨a, row⟩ S H ⟨h1, h2⟩
  dsimp only at h1 h2 ⊢
  refine se_retD (ee_op (ee_dat rfl (ee_next (ea_cons (ee_raw rfl (ea_cons (ee_cb (ea_cons (ee_dat rfl (ea_nil (cb_len (.inl rfl) ?_)))))))))))
  rw [List.length_map]
  refine ea_nil ⟨S, H, _, a, row.length, rfl, rfl, h1, h2, fun v hv => ?_⟩
  have hg : (row.map nI)[v]? = some (nI row[v]) := by rw [List.getElem?_map, List.getElem?_eq_getElem hv]; rfl
  exact n_ixL rfl hg ⟨_, rfl, _, rfl, (fun i z => nomatch z), row[v], rfl, List.getElem_mem hv, rfl⟩

def GOk (below : Nat) (g : Gate) : Prop := g.2.length ≤ 3 ∧ Tab g.1 g.2.length ∧ ∀ p ∈ g.2, p < below
structure I_lgate where
  a : Addr
  below : Nat
abbrev sp__law_gate : Sp := spG (fun i : I_lgate => [.raw (.ref i.a), .dat (nI i.below)]) (fun i _ _ => i.below < 1000) (fun i => [(i.a, stC)]) (fun i r cs => ∃ g, r = .dat (enG g) ∧ GOk i.below g ∧ cs = [(i.a, stC)])
theorem ee_lgate {Ω : Wd} {δ : List AS} {R : KR} {ta : TA} {E : XK} (h : EA P w ta Ω δ fun rs Ω1 δ1 => ∃ S0 H0 M a below, Ω1 = Wd.sym S0 H0 M [(a, stC)] ∧ rs = [.raw (.ref a), .dat (nI below)] ∧ below < 1000 ∧ ∀ g, GOk below g → R (.dat (enG g)) Ω1 δ1) : EE P w (tCall sp__law_gate [] E ta) Ω δ R :=
  ee_callG (h.imp fun rs Ω1 δ1 ⟨S0, H0, M, a, below, e1, e2, h1, z⟩ => ⟨⟨a, below⟩, S0, H0, M, [], e1, e2, by simp, fun _ _ _ _ => h1, fun r cs _ ⟨v, e3, hv, e4⟩ => by
    subst e3 e4
    have := z v hv
    rw [e1] at this
    exact this⟩) fun i r cs ⟨v, e, _⟩ j => by rw [e]; exact fun z => nomatch z
theorem eight_at {v : Nat} (h : v < 8) : ∃ m, m ≤ 3 ∧ ([0, 1, 1, 2, 2, 2, 3, 3] : List Nat)[v]? = some m := by
  have : ∀ v, v < 8 → ∃ m, m ≤ 3 ∧ ([0, 1, 1, 2, 2, 2, 3, 3] : List Nat)[v]? = some m := by
    intro v hv
    match v, hv with
    | 0, _ => exact ⟨0, by decide, rfl⟩
    | 1, _ => exact ⟨1, by decide, rfl⟩
    | 2, _ => exact ⟨1, by decide, rfl⟩
    | 3, _ => exact ⟨2, by decide, rfl⟩
    | 4, _ => exact ⟨2, by decide, rfl⟩
    | 5, _ => exact ⟨2, by decide, rfl⟩
    | 6, _ => exact ⟨3, by decide, rfl⟩
    | 7, _ => exact ⟨3, by decide, rfl⟩
  exact this v h
theorem four_at {m : Nat} (h : m ≤ 3) : ([2, 4, 16, 256] : List Nat)[m]? = some (2 ^ 2 ^ m) := by
  match m, h with
  | 0, _ => rfl
  | 1, _ => rfl
  | 2, _ => rfl
  | 3, _ => rfl

abbrev N__law_gate : List Str := ["_law_state_here", "_law_below", "_law_many", "_law_places", "_law_k", "_law_near"]
theorem sc__law_gate : FnScope N__law_gate ["_law_state_here", "_law_below"] (defScope s__law_gate) := ⟨rfl, rfl, rfl, by decide +kernel, rfl, by decide +kernel, by decide +kernel⟩
theorem ok__law_gate {k : Nat} {f : Addr} {fd : FuncData} (F : FnP K "_law_gate" "_law_gate" s__law_gate f fd) (T : Fx mg) (c__law_next : Cal P w K mg base k "_law_next" ["_law_state_here", "_law_many"] sp__law_next) : FnOk P w K mg base CX0 (k + 1) f fd ["_law_state_here", "_law_below"] sp__law_gate := by
  refine F.ok sc__law_gate (spG_len fun _ => rfl) (fun cdv A outer s H vs Q E hr hsp => ?_)
  refine ⟨_, PSs.nox (pss_cons (ps_set (i := 2) sc__law_gate.nd rfl (Or.inl rfl) (pe_ix ix_list (pe_lst (pa_cons pe_int (pa_cons pe_int (pa_cons pe_int (pa_cons pe_int (pa_cons pe_int (pa_cons pe_int (pa_cons pe_int (pa_cons pe_int pa_nil))))))))) (pe_cal c__law_next hr (by rfl) (pa_cons (pv 0) (pa_cons pe_int pa_nil))) (fun _ _ => rfl)))
    (pss_cons (ps_if (pt_cmpR (op_eqD hr.units) (pv 1) pe_int (nomark _))
    (pss_one (ps_set (i := 2) sc__law_gate.nd rfl (Or.inl rfl) pe_int))
    pss_nil)
    (pss_cons (ps_set (i := 3) sc__law_gate.nd rfl (Or.inl rfl) (pe_lst pa_nil))
    (pss_cons (ps_for PassesOwn.never rfl (pi_range1 (by rfl) T.range (pa_cons (pv 2) pa_nil)) (pg_name (i := 4) sc__law_gate.nd rfl (Or.inl rfl))
    (pss_cons (ps_set (i := 5) sc__law_gate.nd rfl (Or.inl rfl) (pe_callB (call_min2' rfl) (by rfl) T.min (by decide +kernel) (pa_cons (pv 1) (pa_cons (pe_ix ix_list (pe_lst (pa_cons (pv 1) (pa_cons pe_int pa_nil))) (pe_cal c__law_next hr (by rfl) (pa_cons (pv 0) (pa_cons pe_int pa_nil))) (fun _ _ => rfl)) pa_nil))))
    (pss_one (ps_expr (pe_bm PySem.F.plainAttrs_list PySem.F.slot_list_append PySem.F.type_list_append mt_append (pv 3) (pa_cons (pe_op op_sub (pe_op op_sub (pv 1) pe_int) (pe_cal c__law_next hr (by rfl) (pa_cons (pv 0) (pa_cons (pv 5) pa_nil)))) pa_nil))))))
    (pss_one (ps_ret (pe_tup (pa_cons (pe_cal c__law_next hr (by rfl) (pa_cons (pv 0) (pa_cons (pe_ix ix_list (pe_lst (pa_cons pe_int (pa_cons pe_int (pa_cons pe_int (pa_cons pe_int pa_nil))))) (pv 2) (fun _ _ => rfl)) pa_nil))) (pa_cons (pe_callTy call_tupOf (by rfl) T.tuple (by decide +kernel) (pa_cons (pv 3) pa_nil)) pa_nil))))))))), ?_⟩
  refine run_spG (P := P) (w := w) hsp ?_
  rintro ⟨a, below⟩ S H hbl
  have hbl : below < 1000 := hbl
  dsimp only
  refine se_seq (se_set (ee_op (ee_new (en_lst (ea_cons (ee_lit (ea_cons (ee_lit (ea_cons (ee_lit (ea_cons (ee_lit (ea_cons (ee_lit (ea_cons (ee_lit (ea_cons (ee_lit (ea_cons (ee_lit (ea_nil ⟨[_, _, _, _, _, _, _, _], rfl, (by show 8 ≤ sizeLine; decide), ee_next (ea_cons (ee_raw rfl (ea_cons (ee_lit (ea_nil ⟨S, H, _, a, 8, rfl, rfl, by decide, by decide, fun v hv => ?_⟩)))))⟩)))))))))))))))))))))
  obtain ⟨m, hm3, hm⟩ := eight_at hv
  have hme : ([nI 0, nI 1, nI 1, nI 2, nI 2, nI 2, nI 3, nI 3] : List PyData)[v]? = some (nI m) := by
    show (([0, 1, 1, 2, 2, 2, 3, 3] : List Nat).map nI)[v]? = _
    rw [List.getElem?_map, hm]
    rfl
  refine n_ixL rfl hme ⟨_, rfl, ?_⟩
  refine se_seq (SE.imp (p := ⟨fun Ω' δ' => Ω' = Wd.sym S H [a] [(a, stC)] ∧ ∃ m, m ≤ 3 ∧ (below = 0 → m = 0) ∧ δ' = [.raw (.ref a), .dat (nI below), .dat (nI m), .un, .un, .un], fun _ _ => False, fun _ _ => False, fun _ _ => False⟩) ?_ ?_ (fun _ _ z => z.elim) (fun _ _ z => z.elim) (fun _ _ z => z.elim))
  · refine se_if (et_test (ee_op (ee_dat rfl (ee_lit (n_eq rfl rfl ⟨_, rfl, fun hb => ?_, fun hb => se_next ⟨rfl, m, hm3, fun z => absurd z (of_decide_eq_false hb), rfl⟩⟩)))))
    exact se_set (ee_lit ⟨_, rfl, rfl, 0, by decide, fun _ => rfl, rfl⟩)
  rintro Ω' δ' ⟨rfl, m, hm3, hm0, rfl⟩
  clear hme hm
  refine se_seq (se_setN (en_lst (ea_nil ⟨[], rfl, by decide, (by show (3 : Nat) < 6; decide), ?_⟩)))
  refine se_seq (se_forX (List.range m) nI (fun r Ω' δ' => Ω' = Wd.sym S H [a] [(a, stC)] ∧ ∃ ps a1 a2, ps.length + r.length = m ∧ (∀ p ∈ ps, p < below) ∧ δ' = [.raw (.ref a), .dat (nI below), .dat (nI m), .own (ps.map nI), a1, a2]) (es_range1 (ea_cons (ee_dat rfl (ea_nil ⟨m, rfl, by omega, rangeD0 _, ⟨rfl, [], .un, .un, by simp, fun _ z => (nomatch z), rfl⟩, ?_, ?_⟩)))))
  · rintro pre i r Ω' δ' hx ⟨rfl, ps, a1, a2, hpl, hps, rfl⟩
    rw [List.length_cons] at hpl
    have hb1 : 0 < below := by
      rcases Nat.eq_zero_or_pos below with z | z
      · have := hm0 z
        omega
      · exact z
    refine ⟨_, gs_name, ?_⟩
    refine se_seq (se_set (ee_cb (ea_cons (ee_dat rfl (ea_cons (ee_op (ee_new (en_lst (ea_cons (ee_dat rfl (ea_cons (ee_lit (ea_nil ⟨[_, _], rfl, (by show 2 ≤ sizeLine; decide), ee_next (ea_cons (ee_raw rfl (ea_cons (ee_lit (ea_nil ⟨S, H, _, a, 2, rfl, rfl, by decide, by decide, fun v hv => ?_⟩)))))⟩)))))))))))))
    obtain ⟨x, hx1, hx2⟩ : ∃ x : Nat, 1 ≤ x ∧ ([nI below, nI 4] : List PyData)[v]? = some (nI x) := by
      match v, hv with
      | 0, _ => exact ⟨below, hb1, rfl⟩
      | 1, _ => exact ⟨4, by decide, rfl⟩
    refine n_ixL rfl hx2 (ea_nil (cb_min2 ⟨_, rfl, ?_⟩))
    obtain ⟨y, hy1, hy2, hy⟩ : ∃ y : Nat, 1 ≤ y ∧ y ≤ below ∧ (if (x : Int) < (below : Int) then (x : Int) else (below : Int)) = (y : Int) := by
      by_cases h : (x : Int) < (below : Int)
      · exact ⟨x, hx1, by omega, if_pos h⟩
      · exact ⟨below, hb1, Nat.le_refl _, if_neg h⟩
    rw [hy]
    refine se_append (i := 3) rfl (ee_op (ee_op (ee_dat rfl (ee_lit (n_sub rfl rfl (by omega) (ee_next (ea_cons (ee_raw rfl (ea_cons (ee_dat rfl (ea_nil ⟨S, H, _, a, y, rfl, rfl, by omega, by omega, fun v2 hv2 => n_sub rfl rfl (by omega) ⟨_, ps.map nI, rfl, rfl, ?_, rfl, ps ++ [below - 1 - v2], .dat (nI i), .dat (nI y), ?_, ?_, ?_⟩⟩)))))))))))
    · rw [List.length_map]
      exact sz100 (by omega)
    · rw [List.length_append, List.length_singleton]
      omega
    · intro p hp
      rcases List.mem_append.mp hp with hp | hp
      · exact hps p hp
      · rw [List.mem_singleton.mp hp]
        omega
    · rw [List.map_append]
      rfl
  rintro Ω' δ' ⟨rfl, ps, a1, a2, hpl, hps, rfl⟩
  have hpl : ps.length = m := by simpa using hpl
  have h4 : ([nI 2, nI 4, nI 16, nI 256] : List PyData)[m]? = some (nI (2 ^ 2 ^ m)) := by
    show (([2, 4, 16, 256] : List Nat).map nI)[m]? = _
    rw [List.getElem?_map, four_at hm3]
    rfl
  have h5 : 2 ^ 2 ^ m < 1000000 := by
    match m, hm3 with
    | 0, _ => decide
    | 1, _ => decide
    | 2, _ => decide
    | 3, _ => decide
  refine se_retD (ee_tup (ea_cons (ee_next (ea_cons (ee_raw rfl (ea_cons (ee_op (ee_new (en_lst (ea_cons (ee_lit (ea_cons (ee_lit (ea_cons (ee_lit (ea_cons (ee_lit (ea_nil ⟨[_, _, _, _], rfl, (by show 4 ≤ sizeLine; decide), ee_dat rfl (n_ixL rfl h4 (ea_nil ⟨S, H, _, a, 2 ^ 2 ^ m, rfl, rfl, Nat.pow_pos (by decide), h5, fun v hv => ea_cons (ee_cb (ea_cons (ee_own rfl (ea_nil ?_))))⟩))⟩))))))))))))))))))
  refine cb_tuple (ds := ps.map nI) (.inl rfl) (ea_nil ⟨[_, _], rfl, (by show 2 ≤ sizeLine; decide), _, rfl, _, rfl, (fun i z => nomatch z), (v, ps), rfl, ⟨by show ps.length ≤ 3; omega, ?_, hps⟩, rfl⟩)
  show v < 2 ^ 2 ^ ps.length
  rw [hpl]
  exact hv

end
end G
set_option Elab.async false
set_option linter.all false
set_option maxRecDepth 100000
set_option maxHeartbeats 4000000
set_option autoImplicit false
namespace G
open PySem PySem.Spec PyProof.Rows L2 D M
local macro_rules | `(tactic| walk_at "d1") => `(tactic| first
  | (with_reducible refine se_seq ?_)
  | (with_reducible refine se_next ?_)
  | (with_reducible refine se_set ?_)
  | (with_reducible refine se_retD ?_)
  | (with_reducible refine se_if ?_)
  | (with_reducible refine ee_lit ?_)
  | (with_reducible refine ee_int ?_)
  | (with_reducible refine ee_str ?_)
  | (with_reducible refine ee_bl ?_)
  | (with_reducible refine ee_non ?_)
  | (with_reducible refine ee_op ?_)
  | (with_reducible refine ee_tup ?_)
  | (with_reducible refine ee_cb ?_)
  | (with_reducible refine et_test ?_)
  | (with_reducible refine ea_nil ?_)
  | (with_reducible refine ea_cons ?_)
  | ((with_reducible refine' ee_dat ?e ?_); (case e => rfl))
  | ((with_reducible refine' ee_own ?e ?_); (case e => rfl))
  | ((with_reducible refine' ee_raw ?e ?_); (case e => rfl))
  | ((with_reducible refine' n_and ?ha ?hb ?_); (case ha => rfl); (case hb => rfl))
  | ((with_reducible refine' n_or ?ha ?hb ?_); (case ha => rfl); (case hb => rfl))
  | ((with_reducible refine' n_xor ?ha ?hb ?_); (case ha => rfl); (case hb => rfl))
  | ((with_reducible refine' n_add ?ha ?hb ?_); (case ha => rfl); (case hb => rfl))
  | ((with_reducible refine' n_sub ?ha ?hb ?hc ?_); (case ha => rfl); (case hb => rfl); (case hc => first | omega | assumption | decide))
  | ((with_reducible refine' n_mul ?ha ?hb ?hc ?_); (case ha => rfl); (case hb => rfl); (case hc => first | omega | assumption | decide))
  | ((with_reducible refine' n_shr ?ha ?hb ?_); (case ha => rfl); (case hb => rfl))
  | ((with_reducible refine' n_shl ?ha ?hb ?hc ?hd ?_); (case ha => rfl); (case hb => rfl); (case hc => first | omega | assumption | decide); (case hd => first | omega | assumption | decide))
  | ((with_reducible refine' n_lt ?ha ?hb ?_); (case ha => rfl); (case hb => rfl))
  | ((with_reducible refine' n_gt ?ha ?hb ?_); (case ha => rfl); (case hb => rfl))
  | ((with_reducible refine' n_eq ?ha ?hb ?_); (case ha => rfl); (case hb => rfl))
  | ((with_reducible refine' n_ne ?ha ?hb ?_); (case ha => rfl); (case hb => rfl))
  | (with_reducible refine ⟨_, rfl, ?_⟩)
  | (with_reducible refine ⟨_, _, rfl, ?_⟩)
  | (with_reducible refine ⟨_, _, _, rfl, ?_⟩)
  | (with_reducible refine ⟨_, _, _, _, rfl, ?_⟩)
  | exact ⟨rfl, _, rfl, rfl⟩)
local macro_rules | `(tactic| walk_at "d") => `(tactic| (repeat (walk_at "d1")))
section
variable {P : Program} {w : World} {K : PySem.W.Frag} {mg : Str → Option Value} {base : Heap}
theorem range_pre {n : Nat} {pre r : List Nat} {x : Nat} (h : List.range n = pre ++ x :: r) : x = pre.length ∧ pre.length + (r.length + 1) = n := by
  have hl : (List.range n).length = (pre ++ x :: r).length := by rw [h]
  rw [List.length_range, List.length_append, List.length_cons] at hl
  have hx : (List.range n)[pre.length]? = some x := by rw [h, List.getElem?_append_right (Nat.le_refl _), Nat.sub_self]; rfl
  rw [List.getElem?_range (by omega)] at hx
  exact ⟨(Option.some.inj hx).symm, by omega⟩
structure I_lcirc where
  a : Addr
  m0 : Nat
  m1 : Nat
  m2 : Nat
  m3 : Nat
structure CBnd (c : Circ) (m0 m1 m2 m3 : Nat) : Prop where
  mem : ∀ m ∈ c.mems, m.1 < 2 ∧ m.2 < c.first + c.gates.length
  gate : ∀ i g, c.gates[i]? = some g → GOk (c.first + i) g
  out : ∀ p ∈ c.outs, p < c.first + c.gates.length
  ins : c.ins ≤ m0
  mems : c.mems.length ≤ m1
  gates : c.gates.length ≤ m2
  outs : c.outs.length ≤ m3
abbrev sp__law_circuit : Sp := spG (fun i : I_lcirc => [.raw (.ref i.a), .dat (nL [i.m0, i.m1, i.m2, i.m3])]) (fun i _ _ => i.m0 ≤ 20 ∧ i.m1 ≤ 20 ∧ i.m2 ≤ 40 ∧ i.m3 ≤ 20) (fun i => [(i.a, stC)]) (fun i r cs => ∃ c, r = .dat (enC c) ∧ CBnd c i.m0 i.m1 i.m2 i.m3 ∧ cs = [(i.a, stC)])
theorem ee_lcircuit {Ω : Wd} {δ : List AS} {R : KR} {ta : TA} {E : XK} (h : EA P w ta Ω δ fun rs Ω1 δ1 => ∃ S0 H0 M a m0 m1 m2 m3, Ω1 = Wd.sym S0 H0 M [(a, stC)] ∧ rs = [.raw (.ref a), .dat (nL [m0, m1, m2, m3])] ∧ (m0 ≤ 20 ∧ m1 ≤ 20 ∧ m2 ≤ 40 ∧ m3 ≤ 20) ∧ ∀ c, CBnd c m0 m1 m2 m3 → R (.dat (enC c)) Ω1 δ1) : EE P w (tCall sp__law_circuit [] E ta) Ω δ R :=
  ee_callG (h.imp fun rs Ω1 δ1 ⟨S0, H0, M, a, m0, m1, m2, m3, e1, e2, h1, z⟩ => ⟨⟨a, m0, m1, m2, m3⟩, S0, H0, M, [], e1, e2, by simp, fun _ _ _ _ => h1, fun r cs _ ⟨v, e3, hv, e4⟩ => by
    subst e3 e4
    have := z v hv
    rw [e1] at this
    exact this⟩) fun i r cs ⟨v, e, _⟩ j => by rw [e]; exact fun z => nomatch z

abbrev N__law_circuit : List Str := ["_law_state_here", "_law_most", "_law_ins", "_law_many", "_law_gates", "_law_k", "_law_places", "_law_memories", "_law_outs"]
theorem sc__law_circuit : FnScope N__law_circuit ["_law_state_here", "_law_most"] (defScope s__law_circuit) := ⟨rfl, rfl, rfl, by decide +kernel, rfl, by decide +kernel, by decide +kernel⟩
theorem ok__law_circuit {k : Nat} {f : Addr} {fd : FuncData} (F : FnP K "_law_circuit" "_law_circuit" s__law_circuit f fd) (T : Fx mg) (c__law_gate : Cal P w K mg base k "_law_gate" ["_law_state_here", "_law_below"] sp__law_gate) (c__law_next : Cal P w K mg base k "_law_next" ["_law_state_here", "_law_many"] sp__law_next) : FnOk P w K mg base CX0 (k + 1) f fd ["_law_state_here", "_law_most"] sp__law_circuit := by
  refine F.ok sc__law_circuit (spG_len fun _ => rfl) (fun cdv A outer s H vs Q E hr hsp => ?_)
  refine ⟨_, PSs.nox (pss_cons (ps_set (i := 2) sc__law_circuit.nd rfl (Or.inl rfl) (pe_cal c__law_next hr (by rfl) (pa_cons (pv 0) (pa_cons (pe_op op_add (pe_ix ix_list (pv 1) pe_int (fun _ _ => rfl)) pe_int) pa_nil))))
    (pss_cons (ps_set (i := 3) sc__law_circuit.nd rfl (Or.inl rfl) (pe_cal c__law_next hr (by rfl) (pa_cons (pv 0) (pa_cons (pe_op op_add (pe_ix ix_list (pv 1) pe_int (fun _ _ => rfl)) pe_int) pa_nil))))
    (pss_cons (ps_set (i := 4) sc__law_circuit.nd rfl (Or.inl rfl) (pe_lst pa_nil))
    (pss_cons (ps_for PassesOwn.never rfl (pi_range1 (by rfl) T.range (pa_cons (pe_cal c__law_next hr (by rfl) (pa_cons (pv 0) (pa_cons (pe_op op_add (pe_ix ix_list (pv 1) pe_int (fun _ _ => rfl)) pe_int) pa_nil))) pa_nil)) (pg_name (i := 5) sc__law_circuit.nd rfl (Or.inl rfl))
    (pss_one (ps_expr (pe_bm PySem.F.plainAttrs_list PySem.F.slot_list_append PySem.F.type_list_append mt_append (pv 4) (pa_cons (pe_cal c__law_gate hr (by rfl) (pa_cons (pv 0) (pa_cons (pe_op op_add (pe_op op_add (pv 2) (pv 3)) (pv 5)) pa_nil))) pa_nil)))))
    (pss_cons (ps_set (i := 6) sc__law_circuit.nd rfl (Or.inr rfl) (pe_op op_add (pe_op op_add (pv 2) (pv 3)) (pe_callB call_len2 (by rfl) T.len PySem.boot_len (pa_cons (pv 4) pa_nil))))
    (pss_cons (ps_setLc (i := 7) (own := [("_law_k", 5)]) (g := gName 5) (by rfl) sc__law_circuit.nd rfl rfl (sw_true rfl rfl rfl (by decide +kernel)) (pi_range1 (by rfl) T.range (pa_cons (pv 3) pa_nil)) (blkOk_by (own := [("_law_k", 5)]) (N := N__law_circuit) (sc := defScope s__law_circuit) (by decide +kernel)) (fun _ _ _ _ _ => pg_name (i := 5) sc__law_circuit.nd rfl (Or.inl rfl)) (fun _ _ _ _ _ => pts_nil) (fun _ _ _ _ _ => pe_tup (pa_cons (pe_cal c__law_next hr (by rfl) (pa_cons (pv 0) (pa_cons pe_int pa_nil))) (pa_cons (pe_cal c__law_next hr (by rfl) (pa_cons (pv 0) (pa_cons (pv 6) pa_nil))) pa_nil))))
    (pss_cons (ps_set (i := 8) sc__law_circuit.nd rfl (Or.inl rfl) (pe_lst pa_nil))
    (pss_cons (ps_if (pt_cmpR op_gt (pv 6) pe_int (nomark _))
    (pss_one (ps_setLc (i := 8) (own := [("_law_k", 5)]) (g := gName 5) (by rfl) sc__law_circuit.nd rfl rfl (sw_true rfl rfl rfl (by decide +kernel)) (pi_range1 (by rfl) T.range (pa_cons (pe_cal c__law_next hr (by rfl) (pa_cons (pv 0) (pa_cons (pe_op op_add (pe_ix ix_list (pv 1) pe_int (fun _ _ => rfl)) pe_int) pa_nil))) pa_nil)) (blkOk_by (own := [("_law_k", 5)]) (N := N__law_circuit) (sc := defScope s__law_circuit) (by decide +kernel)) (fun _ _ _ _ _ => pg_name (i := 5) sc__law_circuit.nd rfl (Or.inl rfl)) (fun _ _ _ _ _ => pts_nil) (fun _ _ _ _ _ => pe_cal c__law_next hr (by rfl) (pa_cons (pv 0) (pa_cons (pv 6) pa_nil)))))
    pss_nil)
    (pss_one (ps_ret (pe_tup (pa_cons (pv 2) (pa_cons (pv 7) (pa_cons (pv 4) (pa_cons (pv 8) pa_nil))))))))))))))), ?_⟩
  refine run_spG (P := P) (w := w) hsp ?_
  rintro ⟨a, m0, m1, m2, m3⟩ S H ⟨h0, h1, h2, h3⟩
  dsimp only at h0 h1 h2 h3 ⊢
  refine se_seq (se_set (ee_next (ea_cons (ee_raw rfl (ea_cons (ee_op (ee_op (ee_dat rfl (ee_lit (n_ixL (b := 0) rfl rfl (ee_lit (n_add rfl rfl (ea_nil ⟨S, H, _, a, _, rfl, rfl, by omega, by omega, fun ins hins => ⟨_, rfl, ?_⟩⟩)))))))))))))
  refine se_seq (se_set (ee_next (ea_cons (ee_raw rfl (ea_cons (ee_op (ee_op (ee_dat rfl (ee_lit (n_ixL (b := 1) rfl rfl (ee_lit (n_add rfl rfl (ea_nil ⟨S, H, _, a, _, rfl, rfl, by omega, by omega, fun many hmany => ⟨_, rfl, ?_⟩⟩)))))))))))))
  refine se_seq (se_setN (en_lst (ea_nil ⟨[], rfl, by decide, (by show (4 : Nat) < 9; decide), ?_⟩)))
  refine se_seq (se_for (es_range1 (ea_cons (ee_next (ea_cons (ee_raw rfl (ea_cons (ee_op (ee_op (ee_dat rfl (ee_lit (n_ixL (b := 2) rfl rfl (ee_lit (n_add rfl rfl (ea_nil ⟨S, H, _, a, _, rfl, rfl, by omega, by omega, fun ng hng => ea_nil ⟨ng, rfl, by omega, ?_⟩⟩)))))))))))))))
  refine ⟨fun i Ω' δ' => Ω' = Wd.sym S H [a] [(a, stC)] ∧ ∃ gs a1, gs.length = i ∧ i ≤ ng ∧ (∀ i g, gs[i]? = some g → GOk (ins + many + i) g) ∧ AS.mine a1 = false ∧ δ' = [.raw (.ref a), .dat (nL [m0, m1, m2, m3]), .dat (nI ins), .dat (nI many), .own (gs.map enG), a1, .un, .un, .un], ⟨rfl, [], .un, rfl, Nat.zero_le _, fun i g hg => by simp at hg, rfl, rfl⟩, ?_, ?_⟩
  · rintro i d Ω' δ' hd ⟨rfl, gs, a1, hgl, hgi, hgs, -, rfl⟩
    obtain ⟨hi, rfl⟩ := rangeD_at hd
    refine ⟨_, gs_name, ?_⟩
    refine se_append (i := 4) rfl (ee_lgate (ea_cons (ee_raw rfl (ea_cons (ee_op (ee_op (ee_dat rfl (ee_dat rfl (n_add rfl rfl (ee_dat rfl (n_add rfl rfl (ea_nil ⟨S, H, _, a, _, rfl, rfl, by omega, fun g hg => ⟨_, gs.map enG, rfl, rfl, ?_, rfl, gs ++ [g], .dat (nI i), ?_, by omega, ?_, rfl, ?_⟩⟩))))))))))))
    · rw [List.length_map]
      exact sz100 (by omega)
    · rw [List.length_append, List.length_singleton, hgl]
    · intro j x hx
      by_cases hj : j < gs.length
      · rw [List.getElem?_append_left hj] at hx
        exact hgs j x hx
      · rw [List.getElem?_append_right (by omega)] at hx
        have : j - gs.length = 0 := by
          cases hz : j - gs.length with
          | zero => rfl
          | succ n => rw [hz] at hx; simp at hx
        rw [this] at hx
        have hx : g = x := Option.some.inj hx
        rw [← hx, show j = i by omega]
        exact hg
    · rw [List.map_append]
      rfl
  rw [rangeD_len]
  rintro Ω' δ' ⟨rfl, gs, a1, hgl, -, hgs, hmi, rfl⟩
  have hnm : (!a1.mine && true) = true := by rw [hmi]; rfl
  refine se_seq (se_set (ee_op (ee_op (ee_dat rfl (ee_dat rfl (n_add rfl rfl (ee_cb (ea_cons (ee_own rfl (ea_nil ?_))))))))))
  refine cb_len (ds := gs.map enG) (.inl rfl) ?_
  rw [List.length_map]
  refine n_add rfl rfl ⟨_, rfl, ?_⟩
  refine se_seq (se_set (ee_new (en_lcX (List.range many) nI (fun r Ω' acc => Ω' = Wd.sym S H [a] [(a, stC)] ∧ ∃ ms : List (Nat × Nat), acc = ms.map enM ∧ ms.length + r.length = many ∧ ∀ m ∈ ms, m.1 < 2 ∧ m.2 < ins + many + gs.length) (es_range1 (ea_cons (ee_dat rfl (ea_nil ⟨many, rfl, by omega, rangeD0 _, hnm, ?_, ⟨rfl, [], rfl, by simp, fun _ z => (nomatch z)⟩, ?_, ?_⟩)))))))
  · rw [List.length_range]
    exact sz100 (by omega)
  · rintro pre i r Ω' acc hx - ⟨rfl, ms, rfl, hml, hms⟩
    rw [List.length_cons] at hml
    refine ⟨_, gs_name, rfl, et_yes ⟨rfl, fun _ => ?_, fun z => nomatch z⟩⟩
    refine ee_tup (ea_cons (ee_next (ea_cons (ee_raw rfl (ea_cons (ee_lit (ea_nil ⟨S, H, _, a, 2, rfl, rfl, by decide, by decide, fun v hv => ea_cons (ee_next (ea_cons (ee_raw rfl (ea_cons (ee_dat rfl (ea_nil ⟨S, H, _, a, _, rfl, rfl, by omega, by omega, fun v2 hv2 => ea_nil ⟨[_, _], rfl, (by show 2 ≤ sizeLine; decide), rfl, _, rfl, rfl, ms ++ [(v, v2)], ?_, ?_, ?_⟩⟩))))))⟩)))))))
    · rw [List.map_append]
      rfl
    · rw [List.length_append, List.length_singleton]
      omega
    · intro m hm
      rcases List.mem_append.mp hm with hm | hm
      · exact hms m hm
      · rw [List.mem_singleton.mp hm]
        exact ⟨hv, hv2⟩
  rintro Ω' acc - ⟨rfl, ms, rfl, hml, hms⟩
  have hml : ms.length = many := by simpa using hml
  refine ⟨_, rfl, ?_⟩
  refine se_seq (se_set (ee_new (en_lst (ea_nil ⟨[], rfl, by decide, _, rfl, ?_⟩))))
  have fin : ∀ outs : List Nat, outs.length ≤ m3 → (∀ p ∈ outs, p < ins + many + gs.length) → CBnd ⟨ins, ms, gs, outs⟩ m0 m1 m2 m3 := fun outs h4 h5 => by
    have e : (⟨ins, ms, gs, outs⟩ : Circ).first = ins + many := by show ins + ms.length = _; rw [hml]
    refine ⟨?_, ?_, ?_, by show ins ≤ m0; omega, by show ms.length ≤ m1; omega, by show gs.length ≤ m2; omega, h4⟩
    · rw [e]; exact hms
    · rw [e]; exact hgs
    · rw [e]; exact h5
  refine se_seq (SE.imp (p := ⟨fun Ω' δ' => Ω' = Wd.sym S H [a] [(a, stC)] ∧ ∃ outs : List Nat, outs.length ≤ m3 ∧ (∀ p ∈ outs, p < ins + many + gs.length) ∧ δ' = [.raw (.ref a), .dat (nL [m0, m1, m2, m3]), .dat (nI ins), .dat (nI many), .own (gs.map enG), a1, .dat (nI (ins + many + gs.length)), .dat (.list (ms.map enM)), .dat (nL outs)], fun _ _ => False, fun _ _ => False, fun _ _ => False⟩) ?_ ?_ (fun _ _ z => z.elim) (fun _ _ z => z.elim) (fun _ _ z => z.elim))
  · refine se_if (et_test (ee_op (ee_dat rfl (ee_lit (n_gt rfl rfl ⟨_, rfl, fun hb => ?_, fun hb => se_next ⟨rfl, [], Nat.zero_le _, fun _ z => (nomatch z), rfl⟩⟩)))))
    have hb : 0 < ins + many + gs.length := of_decide_eq_true hb
    refine se_set (ee_new (en_lcG (es_range1 (ea_cons (ee_next (ea_cons (ee_raw rfl (ea_cons (ee_op (ee_op (ee_dat rfl (ee_lit (n_ixL (b := 3) rfl rfl (ee_lit (n_add rfl rfl (ea_nil ⟨S, H, _, a, _, rfl, rfl, by omega, by omega, fun no hno => ea_nil ⟨no, rfl, by omega, nm_of hnm, ?_, ?_⟩⟩))))))))))))))))
    · rw [rangeD_len]
      exact sz100 (by omega)
    refine ⟨fun i Ω' acc => Ω' = Wd.sym S H [a] [(a, stC)] ∧ ∃ os : List Nat, acc = os.map nI ∧ os.length = i ∧ ∀ p ∈ os, p < ins + many + gs.length, ⟨rfl, [], rfl, rfl, fun _ z => (nomatch z)⟩, ?_, ?_⟩
    · rintro i d Ω' acc hd ⟨rfl, os, rfl, hol, hos⟩
      refine ⟨_, gs_name, by simp, et_yes ⟨rfl, fun _ => ?_, fun z => nomatch z⟩⟩
      refine ee_next (ea_cons (ee_raw rfl (ea_cons (ee_dat rfl (ea_nil ⟨S, H, _, a, _, rfl, rfl, hb, by omega, fun v hv => ⟨rfl, _, rfl, rfl, os ++ [v], ?_, ?_, ?_⟩⟩)))))
      · rw [List.map_append]
        rfl
      · rw [List.length_append, List.length_singleton, hol]
      · intro p hp
        rcases List.mem_append.mp hp with hp | hp
        · exact hos p hp
        · rw [List.mem_singleton.mp hp]
          exact hv
    · rintro Ω' acc - ⟨rfl, os, rfl, hol, hos⟩
      rw [rangeD_len] at hol
      exact ⟨_, rfl, rfl, os, by omega, hos, rfl⟩
  rintro Ω' δ' ⟨rfl, outs, ho1, ho2, rfl⟩
  refine se_freeze (i := 4) rfl (se_retD (ee_tup (ea_cons (ee_dat rfl (ea_cons (ee_dat rfl (ea_cons (ee_dat rfl (ea_cons (ee_dat rfl (ea_nil ⟨[_, _, _, _], rfl, (by show 4 ≤ sizeLine; decide), _, rfl, _, rfl, (fun i z => nomatch z), ⟨ins, ms, gs, outs⟩, rfl, fin outs ho1 ho2, rfl⟩)))))))))))

end
end G
set_option Elab.async false
set_option linter.all false
set_option maxRecDepth 100000
set_option maxHeartbeats 4000000
set_option autoImplicit false
/-! A list of lists that are appended to: the rows are cells at first, then stand still. -/
namespace D
open PySem PySem.Spec PyProof.Rows L2
section
variable {P : Program} {w : World} {K : PySem.W.Frag} {Ω : Wd} {δ : List AS} {σ : L2.St} {S H S0 H0 : Hp} {M : List Addr} {R : KR} {RV : List V → Wd → List AS → Prop} {te : TE} {tt : TT} {wi : TI} {g : TG} {vs : List Nat} {p : Po} {ts : TS}
/-- a new list of known values, ours still -/
def EV (P : Program) (w : World) (te : TE) (Ω : Wd) (δ : List AS) (R : List V → Wd → List AS → Prop) : Prop :=
  ∀ σ S H, Good P w Ω δ σ S H → ∀ Q : VK, (∀ p xs Ω' δ' S' H', R xs Ω' δ' → Good P w Ω' δ' σ S' H' → Step Ω δ σ S H Ω' δ' σ S' H' → H p = none → H' p = some (.lst xs) → S' p = none → ¬ Tch Ω' δ' σ p → Q (.ref p) H') → te σ H Q
theorem en_lcV (h : ES P w wi Ω δ fun ds Ω1 δ1 => NotMine δ1 vs ∧ ds.length < sizeLine ∧ ∃ I : Nat → Wd → List V → Prop, I 0 Ω1 [] ∧
    (∀ i d Ω' acc, ds[i]? = some d → I i Ω' acc → ∃ ups, GS g d ups ∧ (∀ u ∈ ups, u.1 ∈ vs) ∧ ET P w tt Ω' (setD (wipeD δ1 vs) ups) fun b Ω2 δ2 => δ2 = setD (wipeD δ1 vs) ups ∧
      (b = true → EE P w te Ω2 δ2 fun r Ω3 δ3 => δ3 = setD (wipeD δ1 vs) ups ∧ ∃ e, r = .raw e ∧ I (i + 1) Ω3 (acc ++ [e])) ∧ (b = false → I (i + 1) Ω2 acc)) ∧
    ∀ Ω' acc, acc.length ≤ ds.length → I ds.length Ω' acc → RV acc Ω' δ1) : EV P w (tLc wi g tt te vs) Ω δ RV := fun σ S H gd Q q =>
  h σ S H gd _ fun J ds Ω1 δ1 S1 H1 h1 g1 s1 wk => fun Da hD => by
    obtain ⟨hn, hz, I, i0, turn, fin⟩ := h1
    have hT0 : ¬ Tch Ω1 δ1 σ Da := g1.notTch hD
    refine ⟨fun i m H' => m = ds.length - i ∧ i ≤ ds.length ∧ ∃ Ω' S' xs acc, I i Ω' acc ∧ acc.length ≤ i ∧ Good P w Ω' δ1 σ S' H' ∧ Step Ω1 δ1 σ S1 H1 Ω' δ1 σ S' H' ∧ ¬ Tch Ω' δ1 σ Da ∧ H' Da = some (.lst xs) ∧ S' Da = none ∧ xs = acc,
      ⟨_, rfl, Nat.zero_le _, Ω1, S1, [], [], i0, Nat.zero_le _, g1.new' hD, Step.new' hD, hT0, upd_same, g1.sub.free hD, rfl⟩, ?_⟩
    rintro i m H' ⟨rfl, hi, Ω', S', xs, acc, hI, hacc, g', s', hTc, hl, hS, hd⟩
    by_cases hlt : i < ds.length
    · obtain ⟨go, yl⟩ := wk.go Ω' δ1 σ S' H' g' s'.same i hlt
      refine .inr ⟨go, fun H2 => ∃ Ω2 S2 xs acc, I (i + 1) Ω2 acc ∧ acc.length ≤ i + 1 ∧ Good P w Ω2 δ1 σ S2 H2 ∧ Step Ω1 δ1 σ S1 H1 Ω2 δ1 σ S2 H2 ∧ ¬ Tch Ω2 δ1 σ Da ∧ H2 Da = some (.lst xs) ∧ S2 Da = none ∧ xs = acc, fun H2 a => ⟨_, by omega, rfl, hlt, a⟩, fun x H2 y => ?_⟩
      obtain ⟨S2, d, g2, s2, hd2, hx⟩ := yl x H2 y
      obtain ⟨k1, k2, k3⟩ := s2.keep Da _ hl hTc
      obtain ⟨ups, hg, hu, hb⟩ := turn i d Ω' acc hd2 hI
      obtain ⟨gw, sw⟩ := g2.wipe vs
      refine hg S2 H2 (wipe σ vs) x _ g2.sub hx fun us hus => ?_
      obtain ⟨g3, s3⟩ := Good.sets gw hus
      have keys : ∀ u ∈ us, u.1 ∈ vs := fun u hu2 => by
        have : u.1 ∈ ups.map (·.1) := by
          rw [← upOk_keys hus]
          exact List.mem_map_of_mem hu2
        obtain ⟨z, z1, z2⟩ := List.mem_map.mp this
        rw [← z2]
        exact hu z z1
      have offD : ∀ j, j ∉ vs → (setD (wipeD δ1 vs) ups)[j]? = δ1[j]? := fun j hj => by
        rw [setD_off ups _ (fun z hz (e : z.1 = j) => hj (by rw [← e]; exact hu z hz)), wipeD_off hj]
      have offV : ∀ j, j ∉ vs → (setV (wipe σ vs) us)[j]? = σ[j]? := fun j hj => by
        rw [setV_off us _ (fun z hz (e : z.1 = j) => hj (by rw [← e]; exact keys z hz)), wipe_off hj]
      refine ⟨wipe_eq (by rw [setV_len, wipe_length]) offV, ?_⟩
      -- what a state behind the block says
      have back : ∀ {Ω4 : Wd} {S4 H4 : Hp}, Good P w Ω4 (setD (wipeD δ1 vs) ups) (setV (wipe σ vs) us) S4 H4 → Step Ω' (setD (wipeD δ1 vs) ups) (setV (wipe σ vs) us) S2 H2 Ω4 (setD (wipeD δ1 vs) ups) (setV (wipe σ vs) us) S4 H4 →
          Good P w Ω4 δ1 σ S4 H4 ∧ Step Ω' δ1 σ S2 H2 Ω4 δ1 σ S4 H4 := fun {Ω4 S4 H4} g4 s4 =>
        ⟨g2.unwipeG g4 s4.same offD offV hn, s4.same, fun b o hb n => by
          have st := (sw.trans s3).trans s4
          obtain ⟨z1, z2, z3⟩ := st.keep b o hb n
          exact ⟨z1, z2, fun t => z3 (t.imp id fun ⟨j, m⟩ => ⟨j, mine_off offD offV hn m⟩)⟩, s4.dom⟩
      refine hb _ S2 H2 g3 _ fun b Ω4 δ4 S4 H4 h4 g4 s4 => ?_
      obtain ⟨rfl, hyes, hno⟩ := h4
      obtain ⟨g5, s5⟩ := back g4 s4
      obtain ⟨l1, l2, l3⟩ := s5.keep Da _ k1 k3
      cases b with
      | false =>
        rw [if_neg Bool.false_ne_true]
        exact ⟨Ω4, S4, xs, acc, hno rfl, Nat.le_succ_of_le hacc, g5, (s'.trans s2).trans s5, l3, l1, l2.trans (k2.trans hS), hd⟩
      | true =>
        rw [if_pos rfl]
        refine hyes rfl _ S4 H4 g4 _ fun y r Ω6 δ6 S6 H6 h6 g6 s6 o6 => ?_
        obtain ⟨rfl, e, rfl, hI6⟩ := h6
        obtain ⟨g7, s7⟩ := back g6 (s4.trans s6)
        obtain ⟨m1, m2, m3⟩ := s7.keep Da _ k1 k3
        have hS6 : S6 Da = none := m2.trans (k2.trans hS)
        have st := (s'.trans s2).trans s7
        refine ⟨xs, m1, ?_, Ω6, S6, _, acc ++ [e], hI6, by rw [List.length_append, List.length_singleton]; omega, g7.other hS6 m3, ⟨st.same, fun b o hb n => ?_, fun b o hb => ?_⟩, m3, upd_same, hS6, by rw [hd, show y = e from o6]⟩
        · rw [hd]
          omega
        · obtain ⟨z1, z2, z3⟩ := st.keep b o hb n
          exact ⟨(upd_ne (ne_of_none hb hD)).trans z1, z2, z3⟩
        · obtain ⟨u, z⟩ := st.dom b o hb
          exact ⟨u, (upd_ne (ne_of_none hb hD)).trans z⟩
    · have e : i = ds.length := by omega
      subst e
      refine .inl ⟨wk.stop Ω' δ1 σ S' H' g' s'.same, ?_⟩
      exact q Da acc Ω' δ1 S' H' (fin Ω' acc hacc hI) g' (s1.trans s') (s1.back hD) (by rw [← hd]; exact hl) hS hTc
/-- .. which becomes a cell -/
theorem ee_newV (h : EV P w te Ω δ fun xs Ω1 δ1 => ∃ S0 H0 M cs, Ω1 = Wd.sym S0 H0 M cs ∧ ∀ b, R (.raw (.ref b)) (Wd.sym S0 H0 M ((b, .lstV xs) :: cs)) δ1) : EE P w te Ω δ R := fun σ S H g Q k =>
  h σ S H g _ fun b xs Ω1 δ1 S1 H1 h1 g1 s1 hb hb1 hbS hbT => by
    obtain ⟨S0, H0, M, cs, rfl, z⟩ := h1
    exact k (.ref b) (.raw (.ref b)) _ δ1 S1 H1 (z b) (g1.cellNew hb1 hbS hbT rfl) (s1.cellNew hb) rfl
theorem o2_ixV {a : Addr} {vs : List V} {i : Int} {b : Nat} {v : V} (hs : Has Ω a (.lstV vs)) (e : i = (b : Int)) (h : vs[b]? = some v) (k : R (.raw v) Ω δ) : O2 P w (rIxL K) (.raw (.ref a)) (.dat (.int i)) Ω δ R := fun σ S H g x y hx hy Q q => by
  rw [Dq.int_inv hy]
  cases (show x = .ref a from hx)
  obtain ⟨o, h1, h2⟩ := hs S H g.sub g.wld
  have h2 : o = .lst vs := h2
  subst h2
  exact ⟨a, vs, i, v, rfl, rfl, SqL.of h1, atI_of e h, q _ _ Ω δ S H k g Step.refl rfl⟩
/-- the rows' cells -/
def rowC (bs : List Addr) (rows : List (List Nat)) : Cells := List.zipWith (fun b r => (b, Cell.lst (r.map nI))) bs rows
theorem rowC_at {bs : List Addr} {rows : List (List Nat)} {j : Nat} {b : Addr} {r : List Nat} (h1 : bs[j]? = some b) (h2 : rows[j]? = some r) : (rowC bs rows)[j]? = some (b, .lst (r.map nI)) := by
  unfold rowC
  rw [List.getElem?_zipWith, h1, h2]
theorem rowC_set {bs : List Addr} {rows : List (List Nat)} {j : Nat} {b : Addr} (r : List Nat) (h1 : bs[j]? = some b) : (rowC bs rows).set j (b, .lst (r.map nI)) = rowC bs (rows.set j r) := by
  refine List.ext_getElem? fun i => ?_
  by_cases e : j = i
  · subst e
    by_cases hj : j < rows.length
    · have hb := (List.getElem?_eq_some_iff.mp h1).1
      rw [List.getElem?_set_self (by unfold rowC; rw [List.length_zipWith]; omega), rowC_at h1 (List.getElem?_set_self hj)]
    · rw [List.getElem?_eq_none (by rw [List.length_set]; unfold rowC; rw [List.length_zipWith]; omega), List.getElem?_eq_none (by unfold rowC; rw [List.length_zipWith, List.length_set]; omega)]
  · rw [List.getElem?_set_ne e]
    unfold rowC
    rw [List.getElem?_zipWith, List.getElem?_zipWith, List.getElem?_set_ne e]
theorem rowC_adr : ∀ {bs : List Addr} {rows : List (List Nat)}, bs.length = rows.length → adr (rowC bs rows) = bs
  | [], [], _ => rfl
  | [], _ :: _, h => by cases h
  | _ :: _, [], h => by cases h
  | b :: bs, r :: rows, h => by
    show b :: adr (rowC bs rows) = _
    rw [rowC_adr (Nat.succ.inj h)]
/-- the rows stand still from now on, the list of them is the slot's own -/
theorem se_thaw {i : Nat} {o : Addr} {bs : List Addr} {rows : List (List Nat)} {rest : Cells} (hl : bs.length = rows.length) (hi : δ[i]? = some (.raw (.ref o))) (hM : ∀ x ∈ M, x ∈ adr rest) (h : SE P w ts (Wd.sym S0 H0 M rest) (δ.set i (.own (rows.map nL))) p) (hnm : ∀ j, j ≠ i → δ[j]? ≠ some (.raw (.ref o)) ∨ True) : SE P w ts (Wd.sym S0 H0 M ((o, .lstV (bs.map V.ref)) :: (rowC bs rows ++ rest))) δ p := fun σ S H gd D q => by
  obtain ⟨w1, w2, w3, w4⟩ := gd.wld
  have hadr : adr ((o, Cell.lstV (bs.map V.ref)) :: (rowC bs rows ++ rest)) = o :: (bs ++ adr rest) := by
    show o :: adr (rowC bs rows ++ rest) = _
    rw [adr, List.map_append]
    show o :: (adr (rowC bs rows) ++ _) = _
    rw [rowC_adr hl]
  have nd : (o :: (bs ++ adr rest)).Nodup := hadr ▸ w3.nd
  obtain ⟨no, nd2⟩ := List.nodup_cons.mp nd
  obtain ⟨nb, nr, dis⟩ := List.nodup_append.mp nd2
  have fresh : ∀ x, x = o ∨ x ∈ bs → H0 x = none ∧ x ∉ adr rest := fun x hx => by
    have hxr : x ∉ adr rest := fun z => by
      rcases hx with rfl | hx
      · exact no (List.mem_append_right _ z)
      · exact dis _ hx _ z rfl
    have hm : x ∈ adr ((o, Cell.lstV (bs.map V.ref)) :: (rowC bs rows ++ rest)) := by
      rw [hadr]
      rcases hx with rfl | hx
      · exact List.mem_cons_self
      · exact List.mem_cons_of_mem _ (List.mem_append_left _ hx)
    obtain ⟨y, hy, e⟩ := List.mem_map.mp hm
    rcases w4 y hy with z | z
    · rw [e] at z
      exact absurd (hM x z) hxr
    · rw [e] at z
      exact ⟨z, hxr⟩
  have hF : ∀ x, x = o ∨ x ∈ bs → (Wd.sym S0 H0 M ((o, Cell.lstV (bs.map V.ref)) :: (rowC bs rows ++ rest))).F x := fun x hx => .inr (by
    rw [hadr]
    rcases hx with rfl | hx
    · exact List.mem_cons_self
    · exact List.mem_cons_of_mem _ (List.mem_append_left _ hx))
  have hF2 : ∀ x, (Wd.sym S0 H0 M rest).F x → (Wd.sym S0 H0 M ((o, Cell.lstV (bs.map V.ref)) :: (rowC bs rows ++ rest))).F x := fun x hx => by
    rcases hx with hx | hx
    · exact .inl hx
    · exact .inr (by rw [hadr]; exact List.mem_cons_of_mem _ (List.mem_append_right _ hx))
  obtain ⟨hSo, ou, hHo, hou⟩ := w3.at_ (o, .lstV (bs.map V.ref)) List.mem_cons_self
  have hou : ou = .lst (bs.map V.ref) := hou
  subst hou
  have rowAt : ∀ (j : Nat) (b : Addr) (r : List Nat), bs[j]? = some b → rows[j]? = some r → S b = none ∧ ∃ xs, H b = some (.lst xs) ∧ DqAll S xs (r.map nI) := fun j b r h1 h2 => by
    obtain ⟨z1, u, z2, xs, rfl, z3⟩ := w3.at_ (b, .lst (r.map nI)) (List.mem_cons_of_mem _ (List.mem_append_left _ (List.mem_of_getElem? (rowC_at h1 h2))))
    exact ⟨z1, xs, z2, z3⟩
  have hSb : ∀ b ∈ bs, S b = none := fun b hb => by
    obtain ⟨j, hj⟩ := List.mem_iff_getElem?.mp hb
    have hjl := (List.getElem?_eq_some_iff.mp hj).1
    exact (rowAt j b _ hj (List.getElem?_eq_getElem (by omega))).1
  let S' : Hp := fun c => if c ∈ bs then H c else S c
  have eS : ∀ c, c ∈ bs → S' c = H c := fun c z => if_pos z
  have eN : ∀ c, c ∉ bs → S' c = S c := fun c z => if_neg z
  have sS : Same S S' := fun c u e => by
    have n1 : c ∉ bs := fun z => by rw [hSb c z] at e; cases e
    rw [eN c n1]
    exact e
  have sH : Same S' H := fun c u e => by
    by_cases z : c ∈ bs
    · rw [eS c z] at e
      exact e
    · rw [eN c z] at e
      exact gd.sub c u e
  have hs := join_some (slot_at gd hi)
  have hset : σ.set i (some (.ref o)) = σ := by
    obtain ⟨hlt, e⟩ := List.getElem?_eq_some_iff.mp hs
    rw [← e]
    exact List.set_getElem_self hlt
  have hrows : DqAll S' (bs.map V.ref) (rows.map nL) := by
    have go : ∀ (cs : List Addr) (rs : List (List Nat)), cs.length = rs.length → (∀ (j : Nat) (b : Addr) (r : List Nat), cs[j]? = some b → rs[j]? = some r → b ∈ bs ∧ ∃ xs, H b = some (.lst xs) ∧ DqAll S xs (r.map nI)) → DqAll S' (cs.map V.ref) (rs.map nL) := by
      intro cs
      induction cs with
      | nil =>
        intro rs hl _
        cases rs with
        | nil => exact .nil
        | cons => cases hl
      | cons c cs ih =>
        intro rs hl hh
        cases rs with
        | nil => cases hl
        | cons r rs =>
          obtain ⟨hb, xs, h1, h2⟩ := hh 0 c r rfl rfl
          exact .cons (.lst (by rw [eS c hb]; exact h1) (h2.mono sS)) (ih rs (Nat.succ.inj hl) fun j b r' h1 h2 => hh (j + 1) b r' h1 h2)
    exact go bs rows hl fun j b r h1 h2 => ⟨List.mem_of_getElem? h1, (rowAt j b r h1 h2).2⟩
  have hob : o ∉ bs := fun z => no (List.mem_append_left _ z)
  have hmine : ∀ {j q'}, j ≠ i → Mine (δ.set i (.own (rows.map nL))) σ j q' → Mine δ σ j q' := fun {j q'} e ⟨⟨a, e1, e2⟩, e3⟩ => by
    rw [List.getElem?_set_ne (Ne.symm e)] at e1
    exact ⟨⟨a, e1, e2⟩, e3⟩
  have slotF : ∀ {j q'}, Mine δ σ j q' → q' ≠ o := fun {j q'} ⟨⟨a, e1, e2⟩, e3⟩ z => by
    have y := gd.slot j a e1
    rw [e3] at y
    cases a with
    | own ds =>
      obtain ⟨p, xs, q1, q2, _⟩ := y
      cases q1
      exact q2 (z ▸ hF o (.inl rfl))
    | dic ds =>
      obtain ⟨p, xs, q1, q2, _⟩ := y
      cases q1
      exact q2 (z ▸ hF o (.inl rfl))
    | un => cases e2
    | raw v => cases e2
    | dat d => cases e2
  have hio : ∀ {q'}, σ[i]? = some (some (.ref q')) → q' = o := fun {q'} e => by
    rw [hs] at e
    cases e
    rfl
  refine h σ S' H ⟨sH, ⟨w1.trans sS, fun q' u hq hm => ?_, ⟨fun x hx => ?_, nr⟩, fun x hx => w4 x (List.mem_cons_of_mem _ (List.mem_append_right _ hx))⟩, fun x hx => gd.fok x (hF2 x hx), by rw [List.length_set]; exact gd.len, fun j a e => ?_, fun j1 j2 q' m1 m2 => ?_⟩ D (q.step ⟨sS, fun q' u hq hT => ⟨hq, eN q' fun z => hT (.inl (hF q' (.inr z))), fun t => ?_⟩, fun q' u hq => ⟨u, hq⟩⟩)
  · obtain ⟨z1, z2⟩ := w2 q' u hq hm
    refine ⟨z1, (eN q' fun z => ?_).trans z2⟩
    rw [(fresh q' (.inr z)).1] at hq
    cases hq
  · obtain ⟨z1, u, z2, z3⟩ := w3.at_ x (List.mem_cons_of_mem _ (List.mem_append_right _ hx))
    have nb2 : x.1 ∉ bs := fun z => (fresh x.1 (.inr z)).2 (List.mem_map_of_mem hx)
    exact ⟨(eN _ nb2).trans z1, u, z2, x.2.mono _ _ _ sS z3⟩
  · by_cases e2 : j = i
    · subst e2
      have hlt := (List.getElem?_eq_some_iff.mp hi).1
      rw [List.getElem?_set_self hlt] at e
      cases e
      rw [hs]
      refine ⟨o, _, rfl, fun z => ?_, (eN o hob).trans hSo, hHo, hrows⟩
      rcases z with ⟨u, z⟩ | z
      · rw [(fresh o (.inl rfl)).1] at z
        cases z
      · exact (fresh o (.inl rfl)).2 z
    · rw [List.getElem?_set_ne (Ne.symm e2)] at e
      have z := gd.slot j a e
      cases a with
      | un => trivial
      | raw v => exact z
      | dat d => obtain ⟨v, z1, z2⟩ := z; exact ⟨v, z1, z2.mono sS⟩
      | own ds =>
        obtain ⟨p, xs, q1, q2, q3, q4, q5⟩ := z
        exact ⟨p, xs, q1, fun y => q2 (hF2 p y), (eN p fun y => q2 (hF p (.inr y))).trans q3, q4, q5.mono sS⟩
      | dic ds =>
        obtain ⟨p, xs, q1, q2, q3, q4, q5⟩ := z
        exact ⟨p, xs, q1, fun y => q2 (hF2 p y), (eN p fun y => q2 (hF p (.inr y))).trans q3, q4, EntOk.mono q5 sS⟩
  · by_cases e1 : j1 = i
    · by_cases e2 : j2 = i
      · rw [e1, e2]
      · exfalso
        have := hio (e1 ▸ m1.2)
        exact slotF (hmine e2 m2) this
    · by_cases e2 : j2 = i
      · exfalso
        have := hio (e2 ▸ m2.2)
        exact slotF (hmine e1 m1) this
      · exact gd.dist j1 j2 q' (hmine e1 m1) (hmine e2 m2)
  · rcases t with t | ⟨j, t⟩
    · exact hT (.inl (hF2 q' t))
    · by_cases e1 : j = i
      · have hq := hio (q' := q') (e1 ▸ t.2)
        exact hT (.inl (by rw [hq]; exact hF o (.inl rfl)))
      · exact hT (.inr ⟨j, hmine e1 t⟩)
end
end D
set_option Elab.async false
set_option linter.all false
set_option maxRecDepth 100000
set_option maxHeartbeats 4000000
set_option autoImplicit false
namespace G
open PySem PySem.Spec PyProof.Rows L2 D M
local macro_rules | `(tactic| walk_at "d1") => `(tactic| first
  | (with_reducible refine se_seq ?_)
  | (with_reducible refine se_next ?_)
  | (with_reducible refine se_set ?_)
  | (with_reducible refine se_retD ?_)
  | (with_reducible refine se_if ?_)
  | (with_reducible refine ee_lit ?_)
  | (with_reducible refine ee_int ?_)
  | (with_reducible refine ee_str ?_)
  | (with_reducible refine ee_bl ?_)
  | (with_reducible refine ee_non ?_)
  | (with_reducible refine ee_op ?_)
  | (with_reducible refine ee_tup ?_)
  | (with_reducible refine ee_cb ?_)
  | (with_reducible refine et_test ?_)
  | (with_reducible refine ea_nil ?_)
  | (with_reducible refine ea_cons ?_)
  | ((with_reducible refine' ee_dat ?e ?_); (case e => rfl))
  | ((with_reducible refine' ee_own ?e ?_); (case e => rfl))
  | ((with_reducible refine' ee_raw ?e ?_); (case e => rfl))
  | ((with_reducible refine' n_and ?ha ?hb ?_); (case ha => rfl); (case hb => rfl))
  | ((with_reducible refine' n_or ?ha ?hb ?_); (case ha => rfl); (case hb => rfl))
  | ((with_reducible refine' n_xor ?ha ?hb ?_); (case ha => rfl); (case hb => rfl))
  | ((with_reducible refine' n_add ?ha ?hb ?_); (case ha => rfl); (case hb => rfl))
  | ((with_reducible refine' n_sub ?ha ?hb ?hc ?_); (case ha => rfl); (case hb => rfl); (case hc => first | omega | assumption | decide))
  | ((with_reducible refine' n_mul ?ha ?hb ?hc ?_); (case ha => rfl); (case hb => rfl); (case hc => first | omega | assumption | decide))
  | ((with_reducible refine' n_shr ?ha ?hb ?_); (case ha => rfl); (case hb => rfl))
  | ((with_reducible refine' n_shl ?ha ?hb ?hc ?hd ?_); (case ha => rfl); (case hb => rfl); (case hc => first | omega | assumption | decide); (case hd => first | omega | assumption | decide))
  | ((with_reducible refine' n_lt ?ha ?hb ?_); (case ha => rfl); (case hb => rfl))
  | ((with_reducible refine' n_gt ?ha ?hb ?_); (case ha => rfl); (case hb => rfl))
  | ((with_reducible refine' n_eq ?ha ?hb ?_); (case ha => rfl); (case hb => rfl))
  | ((with_reducible refine' n_ne ?ha ?hb ?_); (case ha => rfl); (case hb => rfl))
  | (with_reducible refine ⟨_, rfl, ?_⟩)
  | (with_reducible refine ⟨_, _, rfl, ?_⟩)
  | (with_reducible refine ⟨_, _, _, rfl, ?_⟩)
  | (with_reducible refine ⟨_, _, _, _, rfl, ?_⟩)
  | exact ⟨rfl, _, rfl, rfl⟩)
local macro_rules | `(tactic| walk_at "d") => `(tactic| (repeat (walk_at "d1")))
section
variable {P : Program} {w : World} {K : PySem.W.Frag} {mg : Str → Option Value} {base : Heap}
structure I_loth where
  a : Addr
  c : Circ
  k : Nat
structure LOk (c : Circ) (m0 m1 m2 m3 : Nat) : Prop where
  ins : c.ins ≤ m0
  mems : c.mems.length ≤ m1
  gates : c.gates.length ≤ m2
  outs : c.outs.length ≤ m3
abbrev sp__law_otherwise : Sp := spG (fun i : I_loth => [.raw (.ref i.a), .dat (enC i.c), .dat (nI i.k)]) (fun i _ _ => CBnd i.c 9 9 30 9 ∧ i.k ≤ 4) (fun i => [(i.a, stC)]) (fun i r cs => ∃ c, r = .dat (enC c) ∧ COk c ∧ cs = [(i.a, stC)])
theorem ee_lother {Ω : Wd} {δ : List AS} {R : KR} {ta : TA} {E : XK} (h : EA P w ta Ω δ fun rs Ω1 δ1 => ∃ S0 H0 M a c k, Ω1 = Wd.sym S0 H0 M [(a, stC)] ∧ rs = [.raw (.ref a), .dat (enC c), .dat (nI k)] ∧ CBnd c 9 9 30 9 ∧ k ≤ 4 ∧ ∀ c', COk c' → R (.dat (enC c')) Ω1 δ1) : EE P w (tCall sp__law_otherwise [] E ta) Ω δ R :=
  ee_callG (h.imp fun rs Ω1 δ1 ⟨S0, H0, M, a, c, k, e1, e2, h1, h2, z⟩ => ⟨⟨a, c, k⟩, S0, H0, M, [], e1, e2, by simp, fun _ _ _ _ => ⟨h1, h2⟩, fun r cs _ ⟨v, e3, hv, e4⟩ => by
    subst e3 e4
    have := z v hv
    rw [e1] at this
    exact this⟩) fun i r cs ⟨v, e, _⟩ j => by rw [e]; exact fun z => nomatch z
theorem cut_take (cp : List Nat) (k n : Nat) (h : ∀ q ∈ cp, q < n) : ∃ cs : List Nat, cutD (cp.map nI) none (some (k : Int)) = cs.map nI ∧ cs.length ≤ k ∧ ∀ q ∈ cs, q < n := by
  refine ⟨cp.take k, ?_, ?_, fun q hq => h q (List.mem_of_mem_take hq)⟩
  · rw [cutD_take, List.map_take]
  · rw [List.length_take]
    exact Nat.min_le_left _ _
theorem rowC_len {bs : List Addr} {rows : List (List Nat)} (h : bs.length = rows.length) : (rowC bs rows).length = rows.length := by
  unfold rowC
  rw [List.length_zipWith, h, Nat.min_self]
theorem twos {n : Nat} (h : n ≤ 3) : (1 <<< (1 <<< n) = 2 ^ 2 ^ n) ∧ 1 <<< n ≤ 1000000 ∧ 2 ^ 2 ^ n < 1000000 := by
  match n, h with
  | 0, _ => decide
  | 1, _ => decide
  | 2, _ => decide
  | 3, _ => decide
theorem gok_snoc {F : Nat} {fr : List Gate} {g : Gate} (h : ∀ i x, fr[i]? = some x → GOk (F + i) x) (hg : GOk (F + fr.length) g) : ∀ i x, (fr ++ [g])[i]? = some x → GOk (F + i) x := fun j x hx => by
  by_cases hj : j < fr.length
  · rw [List.getElem?_append_left hj] at hx
    exact h j x hx
  · rw [List.getElem?_append_right (by omega)] at hx
    have : j - fr.length = 0 := by
      cases hz : j - fr.length with
      | zero => rfl
      | succ n => rw [hz] at hx; simp at hx
    rw [this] at hx
    have hx : g = x := Option.some.inj hx
    rw [← hx, show j = fr.length by omega]
    exact hg
theorem rowC_snoc {bs : List Addr} {rows : List (List Nat)} {b : Addr} {r : List Nat} (h : bs.length = rows.length) : rowC (bs ++ [b]) (rows ++ [r]) = rowC bs rows ++ [(b, .lst (r.map nI))] := by
  unfold rowC
  rw [List.zipWith_append h]
  rfl

abbrev N__law_otherwise : List Str := ["_law_state_here", "_law_circuit_here", "_law_most", "_law_ins", "_law_memories", "_law_gates", "_law_outs", "_law_copies", "_law_k", "_law_first_here", "_law_spots", "_law_at", "_law_fresh", "_law_table", "_law_places", "_law_chosen", "_law_place", "_law_order", "_law_twice"]
theorem sc__law_otherwise : FnScope N__law_otherwise ["_law_state_here", "_law_circuit_here", "_law_most"] (defScope s__law_otherwise) := ⟨rfl, rfl, rfl, by decide +kernel, rfl, by decide +kernel, by decide +kernel⟩
theorem ok__law_otherwise {k : Nat} {f : Addr} {fd : FuncData} (F : FnP K "_law_otherwise" "_law_otherwise" s__law_otherwise f fd) (T : Fx mg) (c__law_next : Cal P w K mg base k "_law_next" ["_law_state_here", "_law_many"] sp__law_next) (c__law_some : Cal P w K mg base k "_law_some" ["_law_state_here", "_law_row"] sp__law_some) : FnOk P w K mg base CX0 (k + 1) f fd ["_law_state_here", "_law_circuit_here", "_law_most"] sp__law_otherwise := by
  refine F.ok sc__law_otherwise (spG_len fun _ => rfl) (fun cdv A outer s H vs Q E hr hsp => ?_)
  refine ⟨_, PSs.nox (pss_cons (ps_asg (pv 1) (pg_tup rfl (pgs_cons (pg_name (i := 3) sc__law_otherwise.nd rfl (Or.inl rfl)) (pgs_cons (pg_name (i := 4) sc__law_otherwise.nd rfl (Or.inr rfl)) (pgs_cons (pg_name (i := 5) sc__law_otherwise.nd rfl (Or.inl rfl)) (pgs_cons (pg_name (i := 6) sc__law_otherwise.nd rfl (Or.inl rfl)) pgs_nil))))))
    (pss_cons (ps_set (i := 7) sc__law_otherwise.nd rfl (Or.inl rfl) (pe_slice sl_list (pe_lc (own := [("_law_k", 8)]) (g := gName 8) (by rfl) sc__law_otherwise.nd (pi_range1 (by rfl) T.range (pa_cons (pe_callB call_len2 (by rfl) T.len PySem.boot_len (pa_cons (pv 4) pa_nil)) pa_nil)) (blkOk_by (own := [("_law_k", 8)]) (N := N__law_otherwise) (sc := defScope s__law_otherwise) (by decide +kernel)) (fun _ _ _ _ _ => pg_name (i := 8) sc__law_otherwise.nd rfl (Or.inl rfl)) (fun _ _ _ _ _ => pts_one (pt_cmpR (opK_eqD (K := K) (by rfl) hr.units) (pe_cal c__law_next hr (by rfl) (pa_cons (pv 0) (pa_cons pe_int pa_nil))) pe_int (nomark _))) (fun _ _ _ _ _ => pv 8)) po_none (po_some (pv 2))))
    (pss_cons (ps_set (i := 9) sc__law_otherwise.nd rfl (Or.inl rfl) (pe_op op_add (pe_op op_add (pv 3) (pe_callB call_len2 (by rfl) T.len PySem.boot_len (pa_cons (pv 4) pa_nil))) (pe_callB call_len2 (by rfl) T.len PySem.boot_len (pa_cons (pv 7) pa_nil))))
    (pss_cons (ps_set (i := 10) sc__law_otherwise.nd rfl (Or.inr rfl) (pe_lc (own := [("_law_k", 8)]) (g := gName 8) (by rfl) sc__law_otherwise.nd (pi_range1 (by rfl) T.range (pa_cons (pe_op op_add (pv 3) (pe_callB call_len2 (by rfl) T.len PySem.boot_len (pa_cons (pv 4) pa_nil))) pa_nil)) (blkOk_by (own := [("_law_k", 8)]) (N := N__law_otherwise) (sc := defScope s__law_otherwise) (by decide +kernel)) (fun _ _ _ _ _ => pg_name (i := 8) sc__law_otherwise.nd rfl (Or.inl rfl)) (fun _ _ _ _ _ => pts_nil) (fun _ _ _ _ _ => pe_lst (pa_cons (pv 8) pa_nil))))
    (pss_cons (ps_for PassesOwn.never rfl (pi_enum (by rfl) T.enumerate (pa_cons (pv 7) pa_nil)) (pg_tup rfl (pgs_cons (pg_name (i := 11) sc__law_otherwise.nd rfl (Or.inl rfl)) (pgs_cons (pg_name (i := 8) sc__law_otherwise.nd rfl (Or.inl rfl)) pgs_nil)))
    (pss_one (ps_expr (pe_bm PySem.F.plainAttrs_list PySem.F.slot_list_append PySem.F.type_list_append mt_append (pe_ix ix_list (pv 10) (pe_op op_add (pv 3) (pv 8)) (fun _ _ => rfl)) (pa_cons (pe_op op_add (pe_op op_add (pv 3) (pe_callB call_len2 (by rfl) T.len PySem.boot_len (pa_cons (pv 4) pa_nil))) (pv 11)) pa_nil)))))
    (pss_cons (ps_set (i := 12) sc__law_otherwise.nd rfl (Or.inl rfl) (pe_lst pa_nil))
    (pss_cons (ps_for PassesOwn.never rfl (pi_list (pv 5)) (pg_tup rfl (pgs_cons (pg_name (i := 13) sc__law_otherwise.nd rfl (Or.inl rfl)) (pgs_cons (pg_name (i := 14) sc__law_otherwise.nd rfl (Or.inl rfl)) pgs_nil)))
    (pss_cons (ps_set (i := 15) sc__law_otherwise.nd rfl (Or.inl rfl) (pe_callTy call_tupOf (by rfl) T.tuple (by decide +kernel) (pa_cons (pe_lc (own := [("_law_place", 16)]) (g := gName 16) (by rfl) sc__law_otherwise.nd (pi_tup (pv 14)) (blkOk_by (own := [("_law_place", 16)]) (N := N__law_otherwise) (sc := defScope s__law_otherwise) (by decide +kernel)) (fun _ _ _ _ _ => pg_name (i := 16) sc__law_otherwise.nd rfl (Or.inl rfl)) (fun _ _ _ _ _ => pts_nil) (fun _ _ _ _ _ => pe_cal c__law_some hr (by rfl) (pa_cons (pv 0) (pa_cons (pe_ix (ixK_list (K := K) (by rfl)) (pv 10) (pv 16) (fun _ _ => rfl)) pa_nil)))) pa_nil)))
    (pss_cons (ps_if (pt_cmpR (op_eqD hr.units) (pe_cal c__law_next hr (by rfl) (pa_cons (pv 0) (pa_cons pe_int pa_nil))) pe_int (nomark _))
    (pss_cons (ps_expr (pe_bm PySem.F.plainAttrs_list PySem.F.slot_list_append PySem.F.type_list_append mt_append (pv 12) (pa_cons (pe_tup (pa_cons (pe_op op_sub (pe_op op_sub (pe_op op_shl pe_int (pe_op op_shl pe_int (pe_callB call_len2 (by rfl) T.len PySem.boot_len (pa_cons (pv 14) pa_nil)))) pe_int) (pv 13)) (pa_cons (pv 15) pa_nil))) pa_nil)))
    (pss_one (ps_expr (pe_bm PySem.F.plainAttrs_list PySem.F.slot_list_append PySem.F.type_list_append mt_append (pv 12) (pa_cons (pe_tup (pa_cons pe_int (pa_cons (pe_tup (pa_cons (pe_op op_sub (pe_op op_add (pv 9) (pe_callB call_len2 (by rfl) T.len PySem.boot_len (pa_cons (pv 12) pa_nil))) pe_int) pa_nil)) pa_nil))) pa_nil)))))
    (pss_one (ps_expr (pe_bm PySem.F.plainAttrs_list PySem.F.slot_list_append PySem.F.type_list_append mt_append (pv 12) (pa_cons (pe_tup (pa_cons (pv 13) (pa_cons (pv 15) pa_nil))) pa_nil)))))
    (pss_one (ps_expr (pe_bm PySem.F.plainAttrs_list PySem.F.slot_list_append PySem.F.type_list_append mt_append (pv 10) (pa_cons (pe_lst (pa_cons (pe_op op_sub (pe_op op_add (pv 9) (pe_callB call_len2 (by rfl) T.len PySem.boot_len (pa_cons (pv 12) pa_nil))) pe_int) pa_nil)) pa_nil)))))))
    (pss_cons (ps_set (i := 17) sc__law_otherwise.nd rfl (Or.inl rfl) (pe_op op_cat (pe_listRg rfl (by rfl) T.list (prg_1 (by rfl) T.range (pe_callB call_len2 (by rfl) T.len PySem.boot_len (pa_cons (pv 4) pa_nil)))) (pv 7)))
    (pss_cons (ps_setLc (i := 18) (own := [("_law_k", 8)]) (g := gName 8) (by rfl) sc__law_otherwise.nd rfl rfl (sw_true rfl rfl rfl (by decide +kernel)) (pi_list (pv 17)) (blkOk_by (own := [("_law_k", 8)]) (N := N__law_otherwise) (sc := defScope s__law_otherwise) (by decide +kernel)) (fun _ _ _ _ _ => pg_name (i := 8) sc__law_otherwise.nd rfl (Or.inl rfl)) (fun _ _ _ _ _ => pts_nil) (fun _ _ _ _ _ => pe_tup (pa_cons (pe_ix (ixK_tup (K := K) (by rfl)) (pe_ix (ixK_list (K := K) (by rfl)) (pv 4) (pv 8) (fun _ _ => rfl)) pe_int (fun _ _ => rfl)) (pa_cons (pe_cal c__law_some hr (by rfl) (pa_cons (pv 0) (pa_cons (pe_ix (ixK_list (K := K) (by rfl)) (pv 10) (pe_ix (ixK_tup (K := K) (by rfl)) (pe_ix (ixK_list (K := K) (by rfl)) (pv 4) (pv 8) (fun _ _ => rfl)) pe_int (fun _ _ => rfl)) (fun _ _ => rfl)) pa_nil))) pa_nil))))
    (pss_one (ps_ret (pe_tup (pa_cons (pv 3) (pa_cons (pv 18) (pa_cons (pv 12) (pa_cons (pe_lc (own := [("_law_place", 16)]) (g := gName 16) (by rfl) sc__law_otherwise.nd (pi_list (pv 6)) (blkOk_by (own := [("_law_place", 16)]) (N := N__law_otherwise) (sc := defScope s__law_otherwise) (by decide +kernel)) (fun _ _ _ _ _ => pg_name (i := 16) sc__law_otherwise.nd rfl (Or.inl rfl)) (fun _ _ _ _ _ => pts_nil) (fun _ _ _ _ _ => pe_cal c__law_some hr (by rfl) (pa_cons (pv 0) (pa_cons (pe_ix (ixK_list (K := K) (by rfl)) (pv 10) (pv 16) (fun _ _ => rfl)) pa_nil)))) pa_nil)))))))))))))))), ?_⟩
  refine run_spG (P := P) (w := w) hsp ?_
  rintro ⟨a, c, k⟩ S H ⟨hc, hk⟩
  dsimp only at hc hk ⊢
  have hci := hc.ins
  have hcm := hc.mems
  have hcg := hc.gates
  have hco := hc.outs
  refine se_seq (se_asg (ee_dat rfl ⟨_, _, rfl, gs_tup4, ?_⟩))
  refine se_seq (se_set (ee_new (en_sl (ee_new (en_lcX (List.range c.mems.length) nI (fun r Ω' acc => Ω' = Wd.sym S H [a] [(a, stC)] ∧ ∃ cp : List Nat, acc = cp.map nI ∧ ∀ q ∈ cp, q < c.mems.length) (es_range1 (ea_cons (ee_cb (ea_cons (ee_dat rfl (ea_nil (cb_len (.inl rfl) (ea_nil ⟨c.mems.length, by rw [List.length_map], by omega, rangeD0 _, rfl, ?_, ⟨rfl, [], rfl, fun _ z => (nomatch z)⟩, ?_, ?_⟩)))))))))))))
  · rw [List.length_range]
    exact sz100 (by omega)
  · rintro pre x r Ω' acc hx - ⟨rfl, cp, rfl, hcp⟩
    have hxl : x < c.mems.length := List.mem_range.mp (by rw [hx]; simp)
    refine ⟨_, gs_name, rfl, et_test (ee_op (ee_next (ea_cons (ee_raw rfl (ea_cons (ee_lit (ea_nil ⟨S, H, _, a, 2, rfl, rfl, by decide, by decide, fun v hv => ee_lit (n_eq rfl rfl ⟨_, rfl, rfl, fun _ => ee_dat rfl ⟨rfl, _, rfl, rfl, cp ++ [x], ?_, ?_⟩, fun _ => ⟨rfl, cp, rfl, hcp⟩⟩)⟩)))))))⟩
    · rw [List.map_append]
      rfl
    · intro q hq
      rcases List.mem_append.mp hq with hq | hq
      · exact hcp q hq
      · rw [List.mem_singleton.mp hq]
        exact hxl
  rintro Ω' acc - ⟨rfl, cp, rfl, hcp⟩
  obtain ⟨cs, hcs, hcsl, hcsm⟩ := cut_take cp k c.mems.length hcp
  refine eo_none (eo_some (ee_dat rfl ⟨(k : Int), rfl, _, rfl, ?_⟩))
  rw [hcs]
  refine ⟨_, rfl, ?_⟩
  refine se_seq (se_set (ee_op (ee_op (ee_dat rfl (ee_cb (ea_cons (ee_dat rfl (ea_nil ?_))))))))
  refine cb_len (ds := c.mems.map enM) (.inl rfl) ?_
  rw [List.length_map]
  refine n_add rfl rfl (ee_cb (ea_cons (ee_dat rfl (ea_nil ?_))))
  refine cb_len (ds := cs.map nI) (.inl rfl) ?_
  rw [List.length_map]
  refine n_add rfl rfl ⟨_, rfl, ?_⟩
  refine se_seq (se_setV (ee_newV (en_lcV (es_range1 (ea_cons (ee_op (ee_dat rfl (ee_cb (ea_cons (ee_dat rfl (ea_nil ?_)))))))))))
  refine cb_len (ds := c.mems.map enM) (.inl rfl) ?_
  rw [List.length_map]
  refine n_add rfl rfl (ea_nil ⟨c.ins + c.mems.length, rfl, by omega, nm_of rfl, ?_, ?_⟩)
  · rw [rangeD_len]
    exact sz100 (by omega)
  refine ⟨fun i Ω' acc => ∃ bs : List Addr, acc = bs.map V.ref ∧ bs.length = i ∧ Ω' = Wd.sym S H [a] ((rowC bs ((List.range i).map fun x => [x])).reverse ++ [(a, stC)]), ⟨[], rfl, rfl, rfl⟩, ?_, ?_⟩
  · rintro i d Ω' acc hd ⟨bs, rfl, hbl, rfl⟩
    obtain ⟨hi, rfl⟩ := rangeD_at hd
    refine ⟨_, gs_name, by simp, et_yes ⟨rfl, fun _ => ?_, fun z => nomatch z⟩⟩
    refine ee_newC (en_lst (ea_cons (ee_dat rfl (ea_nil ⟨[_], rfl, (by show 1 ≤ sizeLine; decide), S, H, _, _, rfl, fun b => ⟨.lst [nI i], fun _ _ z => z, rfl, .ref b, rfl, bs ++ [b], ?_, ?_, ?_⟩⟩))))
    · rw [List.map_append]
      rfl
    · rw [List.length_append, List.length_singleton, hbl]
    · rw [List.range_succ, List.map_append, List.map_cons, List.map_nil, rowC_snoc (by rw [List.length_map, List.length_range, hbl]), List.reverse_append]
      rfl
  rintro Ω' acc - ⟨bs, rfl, hbl, rfl⟩
  rw [rangeD_len] at hbl
  rw [rangeD_len]
  refine ⟨S, H, _, _, rfl, fun o => ⟨_, rfl, ?_⟩⟩
  generalize hr0 : (List.range (c.ins + c.mems.length)).map (fun x => [x]) = rows0
  have hr0l : rows0.length = c.ins + c.mems.length := by rw [← hr0, List.length_map, List.length_range]
  have hr0a : ∀ row ∈ rows0, row.length = 1 ∧ ∀ v ∈ row, v < c.ins + c.mems.length := fun row h => by
    rw [← hr0] at h
    obtain ⟨x, hx, rfl⟩ := List.mem_map.mp h
    exact ⟨rfl, fun v hv => by rw [List.mem_singleton.mp hv]; exact List.mem_range.mp hx⟩
  refine se_perm (cs' := (o, .lstV (bs.map V.ref)) :: (rowC bs rows0 ++ [(a, stC)])) (.cons _ ((List.reverse_perm _).append_right _)) ?_
  refine se_seq (se_forX cs.zipIdx (fun q => .tuple [nI q.2, nI q.1]) (fun r Ω' δ' => ∃ rows, rows.length = c.ins + c.mems.length ∧ (∀ row ∈ rows, 0 < row.length ∧ row.length + r.length ≤ 5 ∧ ∀ v ∈ row, v < c.ins + c.mems.length + cs.length) ∧ Ω' = Wd.sym S H [a] ((o, .lstV (bs.map V.ref)) :: (rowC bs rows ++ [(a, stC)])) ∧ ∃ a8 a11, AS.mine a8 = false ∧ δ' = [.raw (.ref a), .dat (enC c), .dat (nI k), .dat (nI c.ins), .dat (.list (c.mems.map enM)), .dat (.list (c.gates.map enG)), .dat (nL c.outs), .dat (nL cs), a8, .dat (nI (c.ins + c.mems.length + cs.length)), .raw (.ref o), a11, .un, .un, .un, .un, .un, .un, .un]) (es_enum (ea_cons (ee_dat rfl (ea_nil ⟨_, rfl, enumD_map nI cs, ⟨rows0, hr0l, ?_, rfl, .un, .un, rfl, rfl⟩, ?_, ?_⟩)))))
  · intro row hrow
    obtain ⟨h1, h2⟩ := hr0a row hrow
    exact ⟨by omega, by rw [List.length_zipIdx]; omega, fun v hv => by have := h2 v hv; omega⟩
  · rintro pre ⟨q, i⟩ r Ω' δ' hx ⟨rows, hrl, hrw, rfl, a8, a11, -, rfl⟩
    have hq : q ∈ cs ∧ i < cs.length := by
      have : (q, i) ∈ cs.zipIdx := by rw [hx]; simp
      obtain ⟨h1, h2, h3⟩ := List.mem_zipIdx this
      simp at h2 h3
      exact ⟨by rw [h3]; exact List.getElem_mem _, h2⟩
    have hqm := hcsm q hq.1
    have hb : (bs.map V.ref)[c.ins + q]? = some (.ref bs[c.ins + q]) := by
      rw [List.getElem?_map, List.getElem?_eq_getElem (by omega)]
      rfl
    have hrow : rows[c.ins + q]? = some rows[c.ins + q] := List.getElem?_eq_getElem (by omega)
    have hcell : ((o, Cell.lstV (bs.map V.ref)) :: (rowC bs rows ++ [(a, stC)]))[c.ins + q + 1]? = some (bs[c.ins + q], .lst (rows[c.ins + q].map nI)) := by
      rw [List.getElem?_cons_succ, List.getElem?_append_left (by rw [rowC_len (by omega)]; omega)]
      exact rowC_at (List.getElem?_eq_getElem (by omega)) hrow
    refine ⟨_, gs_tup2, ?_⟩
    refine se_appendC (ee_op (ee_raw rfl (ee_op (ee_dat rfl (ee_dat rfl (n_add rfl rfl (o2_ixV (has_cell (n := 0) rfl) rfl hb ⟨_, _, rfl, has_cell hcell, ee_op (ee_op (ee_dat rfl (ee_cb (ea_cons (ee_dat rfl (ea_nil ?_))))))⟩)))))))
    refine cb_len (ds := c.mems.map enM) (.inl rfl) ?_
    rw [List.length_map]
    obtain ⟨hw1, hw2, hw3⟩ := hrw _ (List.mem_of_getElem? hrow)
    rw [List.length_cons] at hw2
    refine n_add rfl rfl (ee_dat rfl (n_add rfl rfl ⟨S, H, _, _, _, _, _, rfl, rfl, hcell, sz100 (by rw [List.length_map]; omega), rows.set (c.ins + q) (rows[c.ins + q] ++ [c.ins + c.mems.length + i]), ?_, ?_, ?_, _, _, ?_, rfl⟩))
    · rw [List.length_set, hrl]
    · intro row hrow2
      rcases List.mem_or_eq_of_mem_set hrow2 with h | h
      · obtain ⟨z1, z2, z3⟩ := hrw row h
        rw [List.length_cons] at z2
        exact ⟨z1, by omega, z3⟩
      · subst h
        rw [List.length_append, List.length_singleton]
        refine ⟨by omega, by omega, fun v hv => ?_⟩
        rcases List.mem_append.mp hv with h | h
        · exact hw3 v h
        · rw [List.mem_singleton.mp h]
          omega
    · rw [List.set_cons_succ, List.set_append_left _ _ (by rw [rowC_len (by omega)]; omega)]
      rw [← rowC_set _ (List.getElem?_eq_getElem (by omega)), List.map_append]
      rfl
    · rfl
  rintro Ω' δ' ⟨rows, hrl, hrw, rfl, a8, a11, hm8, rfl⟩
  refine se_thaw (i := 10) (by omega) rfl (by simp [adr]) ?_ (fun _ _ => .inr trivial)
  have hmm : (!a8.mine && true) = true := by rw [hm8]; rfl
  refine se_seq (se_setN (en_lst (ea_nil ⟨[], rfl, by decide, (by show (12 : Nat) < 19; decide), ?_⟩)))
  generalize hF : c.ins + c.mems.length + cs.length = F
  have hF9 : F ≤ 22 := by omega
  rw [hF] at hrw
  refine se_seq (se_forX c.gates enG (fun r Ω' δ' => Ω' = Wd.sym S H [a] [(a, stC)] ∧ ∃ (rows : List (List Nat)) (fr : List Gate), rows.length + r.length = c.ins + c.mems.length + c.gates.length ∧ fr.length + 2 * r.length ≤ 2 * c.gates.length ∧ (∀ row ∈ rows, 0 < row.length ∧ row.length ≤ 5 ∧ ∀ v ∈ row, v < F + fr.length) ∧ (∀ i g, fr[i]? = some g → GOk (F + i) g) ∧ ∃ a13 a14 a15, δ' = [.raw (.ref a), .dat (enC c), .dat (nI k), .dat (nI c.ins), .dat (.list (c.mems.map enM)), .dat (.list (c.gates.map enG)), .dat (nL c.outs), .dat (nL cs), a8, .dat (nI F), .own (rows.map nL), a11, .own (fr.map enG), a13, a14, a15, .un, .un, .un]) (es_list (ee_dat rfl ⟨_, rfl, rfl, ⟨rfl, rows, [], by omega, by simp, fun row hr => ?_, fun i g z => by simp at z, .un, .un, .un, rfl⟩, ?_, ?_⟩)))
  · obtain ⟨z1, z2, z3⟩ := hrw row hr
    exact ⟨z1, by omega, z3⟩
  · rintro pre ⟨t, ps⟩ r Ω' δ' hx ⟨rfl, rows, fr, hrl, hfl, hrw, hfr, a13, a14, a15, rfl⟩
    rw [List.length_cons] at hrl hfl
    have hgl : c.gates.length = pre.length + (r.length + 1) := by rw [hx, List.length_append, List.length_cons]
    obtain ⟨hg1, hg2, hg3⟩ := hc.gate pre.length (t, ps) (by rw [hx, List.getElem?_append_right (Nat.le_refl _), Nat.sub_self]; rfl)
    dsimp only at hg1 hg2 hg3
    have hg3 : ∀ p ∈ ps, p < c.ins + c.mems.length + pre.length := hg3
    refine ⟨_, gs_tup2, ?_⟩
    refine se_seq (se_set (ee_cb (ea_cons (ee_new (en_lcX ps nI (fun r' Ω' acc => Ω' = Wd.sym S H [a] [(a, stC)] ∧ ∃ ch : List Nat, acc = ch.map nI ∧ ch.length + r'.length = ps.length ∧ ∀ v ∈ ch, v < F + fr.length) (es_tup (ee_dat rfl ⟨_, rfl, rfl, rfl, sz100 (by omega), ⟨rfl, [], rfl, by simp, fun _ z => (nomatch z)⟩, ?_, ?_⟩)))))))
    · rintro pre2 x r2 Ω' acc hx2 - ⟨rfl, ch, rfl, hcl, hch⟩
      rw [List.length_cons] at hcl
      have hxp : x ∈ ps := by rw [hx2]; simp
      have hxb := hg3 x hxp
      have hrow : rows[x]? = some rows[x] := List.getElem?_eq_getElem (by omega)
      obtain ⟨z1, z2, z3⟩ := hrw _ (List.mem_of_getElem? hrow)
      refine ⟨_, gs_name, rfl, et_yes ⟨rfl, fun _ => ?_, fun z => nomatch z⟩⟩
      refine ee_some (ea_cons (ee_raw rfl (ea_cons (ee_op (ee_own rfl (ee_dat rfl (o2_ixO (ds := rows.map nL) rfl rfl (by rw [List.getElem?_map, hrow]; rfl) (ea_nil ⟨S, H, _, a, _, rfl, rfl, z1, by omega, fun v hv => ⟨rfl, _, rfl, rfl, ch ++ [v], ?_, ?_, ?_⟩⟩))))))))
      · rw [List.map_append]
        rfl
      · rw [List.length_append, List.length_singleton]
        omega
      · intro p hp
        rcases List.mem_append.mp hp with hp | hp
        · exact hch p hp
        · rw [List.mem_singleton.mp hp]
          exact z3 v hv
    rintro Ω' acc - ⟨rfl, ch, rfl, hcl, hch⟩
    have hcl : ch.length = ps.length := by simpa using hcl
    refine ea_nil (cb_tuple (ds := ch.map nI) (.inl rfl) ⟨_, rfl, ?_⟩)
    refine se_seq (SE.imp (p := ⟨fun Ω' δ' => Ω' = Wd.sym S H [a] [(a, stC)] ∧ ∃ fr2 : List Gate, fr2.length ≤ fr.length + 2 ∧ fr.length + 1 ≤ fr2.length ∧ (∀ i g, fr2[i]? = some g → GOk (F + i) g) ∧ δ' = [.raw (.ref a), .dat (enC c), .dat (nI k), .dat (nI c.ins), .dat (.list (c.mems.map enM)), .dat (.list (c.gates.map enG)), .dat (nL c.outs), .dat (nL cs), a8, .dat (nI F), .own (rows.map nL), a11, .own (fr2.map enG), .dat (nI t), .dat (nT ps), .dat (nT ch), .un, .un, .un], fun _ _ => False, fun _ _ => False, fun _ _ => False⟩) ?_ ?_ (fun _ _ z => z.elim) (fun _ _ z => z.elim) (fun _ _ z => z.elim))
    · refine se_if (et_test (ee_op (ee_next (ea_cons (ee_raw rfl (ea_cons (ee_lit (ea_nil ⟨S, H, _, a, 3, rfl, rfl, by decide, by decide, fun v hv => ee_lit (n_eq rfl rfl ⟨_, rfl, fun hb => ?_, fun hb => ?_⟩)⟩))))))))
      · refine se_seq (se_append (i := 12) rfl (ee_tup (ea_cons (ee_op (ee_op (ee_op (ee_lit (ee_op (ee_lit (ee_cb (ea_cons (ee_dat rfl (ea_nil ?_)))))))))))))
        refine cb_len (ds := ps.map nI) (.inr rfl) ?_
        rw [List.length_map]
        obtain ⟨k1, k2, k3⟩ := twos hg1
        have hg2 : t < 2 ^ 2 ^ ps.length := hg2
        refine n_shl rfl rfl (by decide) (by omega) (n_shl rfl rfl (by decide) k2 (ee_lit (n_sub rfl rfl (by rw [k1]; exact Nat.pow_pos (by decide)) (ee_dat rfl (n_sub rfl rfl (by rw [k1]; omega) (ea_cons (ee_dat rfl (ea_nil ⟨[_, _], rfl, (by show 2 ≤ sizeLine; decide), _, fr.map enG, rfl, rfl, sz1000 (by rw [List.length_map]; omega), ?_⟩))))))))
        refine se_append (i := 12) rfl (ee_tup (ea_cons (ee_lit (ea_cons (ee_tup (ea_cons (ee_op (ee_op (ee_dat rfl (ee_cb (ea_cons (ee_own rfl (ea_nil ?_)))))))))))))
        refine cb_len (ds := fr.map enG ++ [_]) (.inl rfl) ?_
        rw [List.length_append, List.length_map, List.length_singleton]
        refine n_add rfl rfl (ee_lit (n_sub rfl rfl (by omega) (ea_nil ⟨[_], rfl, (by show 1 ≤ sizeLine; decide), ea_nil ⟨[_, _], rfl, (by show 2 ≤ sizeLine; decide), _, _, rfl, rfl, sz1000 (by rw [List.length_append, List.length_map, List.length_singleton]; omega), rfl, fr ++ [((1 <<< (1 <<< ps.length)) - 1 - t, ch)] ++ [(1, [F + (fr.length + 1) - 1])], ?_, ?_, ?_, ?_⟩⟩)))
        · simp
        · simp
        · refine gok_snoc (gok_snoc hfr ⟨by show ch.length ≤ 3; omega, ?_, hch⟩) ⟨by show 1 ≤ 3; decide, by show 1 < 2 ^ 2 ^ 1; decide, fun p hp => ?_⟩
          · show _ < 2 ^ 2 ^ ch.length
            rw [hcl, k1]
            omega
          · rw [List.mem_singleton.mp hp, List.length_append, List.length_singleton]
            omega
        · rw [List.map_append, List.map_append]
          rfl
      · refine se_append (i := 12) rfl (ee_tup (ea_cons (ee_dat rfl (ea_cons (ee_dat rfl (ea_nil ⟨[_, _], rfl, (by show 2 ≤ sizeLine; decide), _, fr.map enG, rfl, rfl, sz1000 (by rw [List.length_map]; omega), rfl, fr ++ [(t, ch)], ?_, ?_, ?_, ?_⟩))))))
        · simp
        · simp
        · exact gok_snoc hfr ⟨by show ch.length ≤ 3; omega, by rw [hcl]; exact hg2, hch⟩
        · rw [List.map_append]
          rfl
    rintro Ω' δ' ⟨rfl, fr2, hf1, hf2, hfr2, rfl⟩
    refine se_append (i := 10) rfl (ee_new (en_lst (ea_cons (ee_op (ee_op (ee_dat rfl (ee_cb (ea_cons (ee_own rfl (ea_nil ?_))))))))))
    refine cb_len (ds := fr2.map enG) (.inl rfl) ?_
    rw [List.length_map]
    refine n_add rfl rfl (ee_lit (n_sub rfl rfl (by omega) (ea_nil ⟨[_], rfl, (by show 1 ≤ sizeLine; decide), _, rows.map nL, rfl, rfl, sz1000 (by rw [List.length_map]; omega), rfl, rows ++ [[F + fr2.length - 1]], fr2, ?_, ?_, ?_, hfr2, .dat (nI t), .dat (nT ps), .dat (nT ch), ?_⟩)))
    · rw [List.length_append, List.length_singleton]
      omega
    · omega
    · intro row hr
      rcases List.mem_append.mp hr with hr | hr
      · obtain ⟨z1, z2, z3⟩ := hrw row hr
        exact ⟨z1, z2, fun v hv => by have := z3 v hv; omega⟩
      · rw [List.mem_singleton.mp hr]
        exact ⟨by simp, by simp, fun v hv => by rw [List.mem_singleton.mp hv]; omega⟩
    · rw [List.map_append]
      rfl
  rintro Ω' δ' ⟨rfl, rows, fr, hrl, hfl, hrw, hfr, a13, a14, a15, rfl⟩
  have hrl : rows.length = c.ins + c.mems.length + c.gates.length := by simpa using hrl
  have hfl : fr.length ≤ 2 * c.gates.length := by simpa using hfl
  have hat : ∀ p, p < c.ins + c.mems.length + c.gates.length → ∃ row, (rows.map nL)[p]? = some (nL row) ∧ 0 < row.length ∧ row.length < 1000000 ∧ ∀ v ∈ row, v < F + fr.length := fun p hp => by
    have hrow : rows[p]? = some rows[p] := List.getElem?_eq_getElem (by omega)
    obtain ⟨z1, z2, z3⟩ := hrw _ (List.mem_of_getElem? hrow)
    exact ⟨rows[p], by rw [List.getElem?_map, hrow]; rfl, z1, by omega, z3⟩
  refine se_seq (se_set (ee_new (en_cat (ee_new (en_listRg1 (ee_cb (ea_cons (ee_dat rfl (ea_nil ?_)))))))))
  refine cb_len (ds := c.mems.map enM) (.inl rfl) ?_
  rw [List.length_map]
  refine ⟨c.mems.length, rfl, by omega, ee_dat rfl ⟨_, cs.map nI, rfl, rfl, ?_, _, rfl, ?_⟩⟩
  · rw [List.length_map, List.length_map, List.length_range]
    exact Nat.le_of_lt (sz100 (by omega))
  have hol : (List.range c.mems.length ++ cs).length ≤ 13 := by
    rw [List.length_append, List.length_range]
    omega
  have hom : ∀ x ∈ List.range c.mems.length ++ cs, x < c.mems.length := fun x hx => by
    rcases List.mem_append.mp hx with h | h
    · exact List.mem_range.mp h
    · exact hcsm x h
  have hoF : (List.range c.mems.length ++ cs).length = c.mems.length + cs.length := by rw [List.length_append, List.length_range]
  generalize hor : List.range c.mems.length ++ cs = ord at hol hom hoF
  refine se_seq (se_set (ee_new (en_lcX ord nI (fun r Ω' acc => Ω' = Wd.sym S H [a] [(a, stC)] ∧ ∃ tw : List (Nat × Nat), acc = tw.map enM ∧ tw.length + r.length = ord.length ∧ ∀ m ∈ tw, m.1 < 2 ∧ m.2 < F + fr.length) (es_list (ee_dat rfl ⟨_, rfl, by rw [← hor, List.map_append], hmm, sz100 (by omega), ⟨rfl, [], rfl, by simp, fun _ z => (nomatch z)⟩, ?_, ?_⟩)))))
  · rintro pre x r Ω' acc hx - ⟨rfl, tw, rfl, htl, htw⟩
    rw [List.length_cons] at htl
    have hxm := hom x (by rw [hx]; simp)
    have hm0 : c.mems[x]? = some c.mems[x] := List.getElem?_eq_getElem hxm
    obtain ⟨hm1, hm2⟩ := hc.mem _ (List.mem_of_getElem? hm0)
    have hm2 : (c.mems[x]).2 < c.ins + c.mems.length + c.gates.length := hm2
    have hme : (c.mems.map enM)[x]? = some (enM c.mems[x]) := by rw [List.getElem?_map, hm0]; rfl
    obtain ⟨row, hr1, hr2, hr3, hr4⟩ := hat _ hm2
    refine ⟨_, gs_name, rfl, et_yes ⟨rfl, fun _ => ?_, fun z => nomatch z⟩⟩
    refine ee_tup (ea_cons (ee_op (ee_op (ee_dat rfl (ee_dat rfl (n_ixL rfl hme (ee_lit (n_ixT (b := 0) rfl rfl (ea_cons (ee_some (ea_cons (ee_raw rfl (ea_cons (ee_op (ee_own rfl (ee_op (ee_op (ee_dat rfl (ee_dat rfl (n_ixL rfl hme (ee_lit (n_ixT (b := 1) rfl rfl (o2_ixO (ds := rows.map nL) rfl rfl hr1 (ea_nil ⟨S, H, _, a, row, rfl, rfl, hr2, hr3, fun v hv => ea_nil ⟨[_, _], rfl, (by show 2 ≤ sizeLine; decide), rfl, _, rfl, rfl, tw ++ [((c.mems[x]).1, v)], ?_, ?_, ?_⟩⟩))))))))))))))))))))))))
    · rw [List.map_append]
      rfl
    · rw [List.length_append, List.length_singleton]
      omega
    · intro m hm
      rcases List.mem_append.mp hm with hm | hm
      · exact htw m hm
      · rw [List.mem_singleton.mp hm]
        exact ⟨hm1, hr4 v hv⟩
  rintro Ω' acc - ⟨rfl, tw, rfl, htl, htw⟩
  have htl : tw.length = ord.length := by simpa using htl
  refine ⟨_, rfl, ?_⟩
  refine se_freeze (i := 12) rfl (se_retD (ee_tup (ea_cons (ee_dat rfl (ea_cons (ee_dat rfl (ea_cons (ee_dat rfl (ea_cons (ee_new (en_lcX c.outs nI (fun r Ω' acc => Ω' = Wd.sym S H [a] [(a, stC)] ∧ ∃ os : List Nat, acc = os.map nI ∧ os.length + r.length = c.outs.length ∧ ∀ p ∈ os, p < F + fr.length) (es_list (ee_dat rfl ⟨_, rfl, rfl, rfl, sz100 (by omega), ⟨rfl, [], rfl, by simp, fun _ z => (nomatch z)⟩, ?_, ?_⟩)))))))))))))
  · rintro pre x r Ω' acc hx - ⟨rfl, os, rfl, hol2, hos⟩
    rw [List.length_cons] at hol2
    obtain ⟨row, hr1, hr2, hr3, hr4⟩ := hat x (hc.out x (by rw [hx]; simp))
    refine ⟨_, gs_name, rfl, et_yes ⟨rfl, fun _ => ?_, fun z => nomatch z⟩⟩
    refine ee_some (ea_cons (ee_raw rfl (ea_cons (ee_op (ee_own rfl (ee_dat rfl (o2_ixO (ds := rows.map nL) rfl rfl hr1 (ea_nil ⟨S, H, _, a, row, rfl, rfl, hr2, hr3, fun v hv => ⟨rfl, _, rfl, rfl, os ++ [v], ?_, ?_, ?_⟩⟩))))))))
    · rw [List.map_append]
      rfl
    · rw [List.length_append, List.length_singleton]
      omega
    · intro p hp
      rcases List.mem_append.mp hp with hp | hp
      · exact hos p hp
      · rw [List.mem_singleton.mp hp]
        exact hr4 v hv
  rintro Ω' acc - ⟨rfl, os, rfl, hol2, hos⟩
  have hol2 : os.length = c.outs.length := by simpa using hol2
  have e : (⟨c.ins, tw, fr, os⟩ : Circ).first = F := by show c.ins + tw.length = _; omega
  refine ea_nil ⟨[_, _, _, _], rfl, (by show 4 ≤ sizeLine; decide), _, rfl, _, rfl, (fun i z => nomatch z), ⟨c.ins, tw, fr, os⟩, rfl, ⟨?_, ?_, ?_, by show c.ins ≤ 100; omega, by show tw.length ≤ 100; omega, by show fr.length ≤ 60; omega, by show os.length ≤ 100; omega⟩, rfl⟩
  · rw [e]; exact htw
  · rw [e]; exact hfr
  · rw [e]; exact hos

end
end G
set_option Elab.async false
set_option linter.all false
set_option maxRecDepth 100000
set_option maxHeartbeats 4000000
set_option autoImplicit false
namespace G
open PySem PySem.Spec PyProof.Rows L2 D M
local macro_rules | `(tactic| walk_at "d1") => `(tactic| first
  | (with_reducible refine se_seq ?_)
  | (with_reducible refine se_next ?_)
  | (with_reducible refine se_set ?_)
  | (with_reducible refine se_retD ?_)
  | (with_reducible refine se_if ?_)
  | (with_reducible refine ee_lit ?_)
  | (with_reducible refine ee_int ?_)
  | (with_reducible refine ee_str ?_)
  | (with_reducible refine ee_bl ?_)
  | (with_reducible refine ee_non ?_)
  | (with_reducible refine ee_op ?_)
  | (with_reducible refine ee_tup ?_)
  | (with_reducible refine ee_cb ?_)
  | (with_reducible refine et_test ?_)
  | (with_reducible refine ea_nil ?_)
  | (with_reducible refine ea_cons ?_)
  | ((with_reducible refine' ee_dat ?e ?_); (case e => rfl))
  | ((with_reducible refine' ee_own ?e ?_); (case e => rfl))
  | ((with_reducible refine' ee_raw ?e ?_); (case e => rfl))
  | ((with_reducible refine' n_and ?ha ?hb ?_); (case ha => rfl); (case hb => rfl))
  | ((with_reducible refine' n_or ?ha ?hb ?_); (case ha => rfl); (case hb => rfl))
  | ((with_reducible refine' n_xor ?ha ?hb ?_); (case ha => rfl); (case hb => rfl))
  | ((with_reducible refine' n_add ?ha ?hb ?_); (case ha => rfl); (case hb => rfl))
  | ((with_reducible refine' n_sub ?ha ?hb ?hc ?_); (case ha => rfl); (case hb => rfl); (case hc => first | omega | assumption | decide))
  | ((with_reducible refine' n_mul ?ha ?hb ?hc ?_); (case ha => rfl); (case hb => rfl); (case hc => first | omega | assumption | decide))
  | ((with_reducible refine' n_shr ?ha ?hb ?_); (case ha => rfl); (case hb => rfl))
  | ((with_reducible refine' n_shl ?ha ?hb ?hc ?hd ?_); (case ha => rfl); (case hb => rfl); (case hc => first | omega | assumption | decide); (case hd => first | omega | assumption | decide))
  | ((with_reducible refine' n_lt ?ha ?hb ?_); (case ha => rfl); (case hb => rfl))
  | ((with_reducible refine' n_gt ?ha ?hb ?_); (case ha => rfl); (case hb => rfl))
  | ((with_reducible refine' n_eq ?ha ?hb ?_); (case ha => rfl); (case hb => rfl))
  | ((with_reducible refine' n_ne ?ha ?hb ?_); (case ha => rfl); (case hb => rfl))
  | (with_reducible refine ⟨_, rfl, ?_⟩)
  | (with_reducible refine ⟨_, _, rfl, ?_⟩)
  | (with_reducible refine ⟨_, _, _, rfl, ?_⟩)
  | (with_reducible refine ⟨_, _, _, _, rfl, ?_⟩)
  | exact ⟨rfl, _, rfl, rfl⟩)
local macro_rules | `(tactic| walk_at "d") => `(tactic| (repeat (walk_at "d1")))
section
variable {P : Program} {w : World} {K : PySem.W.Frag} {mg : Str → Option Value} {base : Heap}
/-- one turn's row of a gate -/
def rowN (found : List Nat) (ps : List Nat) : Nat := ps.zipIdx.foldl (fun s q => s + found.getD q.1 0 * ([1, 2, 4] : List Nat).getD q.2 0) 0
def gateV (found : List Nat) (g : Gate) : Nat := (g.1 >>> rowN found g.2) &&& 1
def valsN (c : Circ) (st ins : List Nat) : List Nat := c.gates.foldl (fun f g => f ++ [gateV f g]) (ins ++ st)
def outN (c : Circ) (v : List Nat) : List Nat := c.outs.map fun p => v.getD p 0
def aftN (c : Circ) (v : List Nat) : List Nat := c.mems.map fun m => v.getD m.2 0
def firN (c : Circ) : List Nat := c.mems.map (·.1)
/-- what the reading of a circuit asks -/
structure VOk (c : Circ) : Prop where
  mem : ∀ m ∈ c.mems, m.1 < 2 ∧ m.2 < c.first + c.gates.length
  gate : ∀ i g, c.gates[i]? = some g → g.2.length ≤ 3 ∧ ∀ p ∈ g.2, p < c.first + i
  out : ∀ p ∈ c.outs, p < c.first + c.gates.length
  ins : c.ins ≤ 1000
  mems : c.mems.length ≤ 1000
  gates : c.gates.length ≤ 1000
  outs : c.outs.length ≤ 1000
theorem getD_of {l : List Nat} {p : Nat} (h : p < l.length) : l[p]? = some (l.getD p 0) := by
  rw [List.getD_eq_getElem?_getD, List.getElem?_eq_getElem h]
  rfl
theorem map_nI {l : List Nat} {p : Nat} (h : p < l.length) : (l.map nI)[p]? = some (nI (l.getD p 0)) := by
  rw [List.getElem?_map, getD_of h]
  rfl
abbrev sp__law_first : Sp := spX (fun c : Circ => [enC c]) (fun c => c.mems.length ≤ 1000) (fun c d => d = nT (firN c))

abbrev N__law_first : List Str := ["_law_circuit_here", "_law_begin", "_law_after"]
theorem sc__law_first : FnScope N__law_first ["_law_circuit_here"] (defScope s__law_first) := ⟨rfl, rfl, rfl, by decide +kernel, rfl, by decide +kernel, by decide +kernel⟩
theorem ok__law_first {k : Nat} {f : Addr} {fd : FuncData} (F : FnP K "_law_first" "_law_first" s__law_first f fd) (T : Fx mg) : FnOk P w K mg base CX0 (k + 1) f fd ["_law_circuit_here"] sp__law_first := by
  refine F.ok sc__law_first (spX_len fun _ => rfl) (fun cdv A outer s H vs Q E hr hsp => ?_)
  refine ⟨_, PSs.nox (pss_one (ps_ret (pe_callTy call_tupOf (by rfl) T.tuple (by decide +kernel) (pa_cons (pe_lc (own := [("_law_begin", 1), ("_law_after", 2)]) (g := gTup K 2 (gCons (gName 1) (gCons (gName 2) gNil))) (by rfl) sc__law_first.nd (pi_list (pe_ix ix_tup (pv 0) pe_int (fun _ _ => rfl))) (blkOk_by (own := [("_law_begin", 1), ("_law_after", 2)]) (N := N__law_first) (sc := defScope s__law_first) (by decide +kernel)) (fun _ _ _ _ _ => pg_tup rfl (pgs_cons (pg_name (i := 1) sc__law_first.nd rfl (Or.inl rfl)) (pgs_cons (pg_name (i := 2) sc__law_first.nd rfl (Or.inl rfl)) pgs_nil))) (fun _ _ _ _ _ => pts_nil) (fun _ _ _ _ _ => pv 1)) pa_nil)))), ?_⟩
  refine run_spX (P := P) (w := w) hsp ?_
  rintro c S H hc
  have hc : c.mems.length ≤ 1000 := hc
  dsimp only
  refine se_retD (ee_cb (ea_cons (ee_new (en_mapX c.mems enM (fun m => nI m.1) (es_list (ee_op (ee_dat rfl (ee_lit (n_ixT (b := 1) rfl rfl ⟨_, rfl, rfl, rfl, sz1000 hc, ?_, ?_⟩)))))))))
  · intro m hm
    exact ⟨_, gs_tup2, rfl, ee_dat rfl ⟨rfl, rfl, rfl⟩⟩
  · refine ea_nil (cb_tuple (ds := c.mems.map fun m : Nat × Nat => nI m.1) (.inl rfl) ⟨_, rfl, rfl, _, rfl, ?_⟩)
    unfold firN
    rw [nT, List.map_map]
    rfl

theorem gates_len (gs : List Gate) (f : List Nat) : (gs.foldl (fun f g => f ++ [gateV f g]) f).length = f.length + gs.length := by
  induction gs generalizing f with
  | nil => rfl
  | cons g gs ih =>
    rw [List.foldl_cons, ih, List.length_append, List.length_singleton, List.length_cons]
    omega
theorem vals_len (c : Circ) (st ins : List Nat) : (valsN c st ins).length = ins.length + st.length + c.gates.length := by
  unfold valsN
  rw [gates_len, List.length_append]
structure RunOk (c : Circ) (st ins : List Nat) : Prop where
  vok : VOk c
  stl : st.length = c.mems.length
  insl : ins.length = c.ins
  sb : ∀ b ∈ st, b < 2
  ib : ∀ b ∈ ins, b < 2
theorem RunOk.len {c : Circ} {st ins : List Nat} (h : RunOk c st ins) : (valsN c st ins).length = c.first + c.gates.length := by
  rw [vals_len, h.stl, h.insl]
  rfl
abbrev sp__law_values : Sp := spX (fun q : Circ × List Nat × List Nat => [enC q.1, nT q.2.1, nL q.2.2]) (fun q => RunOk q.1 q.2.1 q.2.2) (fun q d => d = nL (valsN q.1 q.2.1 q.2.2))
theorem ee__law_values {Ω : Wd} {δ : List AS} {R : KR} {ta : TA} {E : XK} (h : EA P w ta Ω δ fun rs Ω1 δ1 => ∃ (c : Circ) (st : List Nat) (ins : List Nat), rs = [.dat (enC c), .dat (nT st), .dat (nL ins)] ∧ RunOk c st ins ∧ R (.dat (nL (valsN c st ins))) Ω1 δ1) : EE P w (tCall sp__law_values [] E ta) Ω δ R :=
  ee_call fun σ S H g Q q => h σ S H g Q fun vs rs Ω' δ' S' H' ⟨c, st, ins, e, hp, z⟩ => q vs rs Ω' δ' S' H' ⟨(c, st, ins), e, hp, fun d hd => by subst hd; exact z⟩

abbrev sp__law_turn : Sp := spX (fun q : Circ × List Nat × List Nat => [enC q.1, nT q.2.1, nL q.2.2]) (fun q => RunOk q.1 q.2.1 q.2.2) (fun q d => d = .tuple [nL (outN q.1 (valsN q.1 q.2.1 q.2.2)), nT (aftN q.1 (valsN q.1 q.2.1 q.2.2))])
theorem ee__law_turn {Ω : Wd} {δ : List AS} {R : KR} {ta : TA} {E : XK} (h : EA P w ta Ω δ fun rs Ω1 δ1 => ∃ (c : Circ) (st : List Nat) (ins : List Nat), rs = [.dat (enC c), .dat (nT st), .dat (nL ins)] ∧ RunOk c st ins ∧ R (.dat (.tuple [nL (outN c (valsN c st ins)), nT (aftN c (valsN c st ins))])) Ω1 δ1) : EE P w (tCall sp__law_turn [] E ta) Ω δ R :=
  ee_call fun σ S H g Q q => h σ S H g Q fun vs rs Ω' δ' S' H' ⟨c, st, ins, e, hp, z⟩ => q vs rs Ω' δ' S' H' ⟨(c, st, ins), e, hp, fun d hd => by subst hd; exact z⟩

theorem ee__law_first {Ω : Wd} {δ : List AS} {R : KR} {ta : TA} {E : XK} (h : EA P w ta Ω δ fun rs Ω1 δ1 => ∃ (c : Circ), rs = [.dat (enC c)] ∧ c.mems.length ≤ 1000 ∧ R (.dat (nT (firN c))) Ω1 δ1) : EE P w (tCall sp__law_first [] E ta) Ω δ R :=
  ee_call fun σ S H g Q q => h σ S H g Q fun vs rs Ω' δ' S' H' ⟨c, e, hp, z⟩ => q vs rs Ω' δ' S' H' ⟨c, e, hp, fun d hd => by subst hd; exact z⟩


abbrev N__law_turn : List Str := ["_law_circuit_here", "_law_state_here", "_law_ins", "_law_found", "_law_place", "_law_begin", "_law_after"]
theorem sc__law_turn : FnScope N__law_turn ["_law_circuit_here", "_law_state_here", "_law_ins"] (defScope s__law_turn) := ⟨rfl, rfl, rfl, by decide +kernel, rfl, by decide +kernel, by decide +kernel⟩
theorem ok__law_turn {k : Nat} {f : Addr} {fd : FuncData} (F : FnP K "_law_turn" "_law_turn" s__law_turn f fd) (T : Fx mg) (c__law_values : Cal P w K mg base k "_law_values" ["_law_circuit_here", "_law_state_here", "_law_ins"] sp__law_values) : FnOk P w K mg base CX0 (k + 1) f fd ["_law_circuit_here", "_law_state_here", "_law_ins"] sp__law_turn := by
  refine F.ok sc__law_turn (spX_len fun _ => rfl) (fun cdv A outer s H vs Q E hr hsp => ?_)
  refine ⟨_, PSs.nox (pss_cons (ps_set (i := 3) sc__law_turn.nd rfl (Or.inr rfl) (pe_cal c__law_values hr (by rfl) (pa_cons (pv 0) (pa_cons (pv 1) (pa_cons (pv 2) pa_nil)))))
    (pss_one (ps_ret (pe_tup (pa_cons (pe_lc (own := [("_law_place", 4)]) (g := gName 4) (by rfl) sc__law_turn.nd (pi_list (pe_ix ix_tup (pv 0) pe_int (fun _ _ => rfl))) (blkOk_by (own := [("_law_place", 4)]) (N := N__law_turn) (sc := defScope s__law_turn) (by decide +kernel)) (fun _ _ _ _ _ => pg_name (i := 4) sc__law_turn.nd rfl (Or.inl rfl)) (fun _ _ _ _ _ => pts_nil) (fun _ _ _ _ _ => pe_ix (ixK_list (K := K) (by rfl)) (pv 3) (pv 4) (fun _ _ => rfl))) (pa_cons (pe_callTy call_tupOf (by rfl) T.tuple (by decide +kernel) (pa_cons (pe_lc (own := [("_law_begin", 5), ("_law_after", 6)]) (g := gTup K 2 (gCons (gName 5) (gCons (gName 6) gNil))) (by rfl) sc__law_turn.nd (pi_list (pe_ix ix_tup (pv 0) pe_int (fun _ _ => rfl))) (blkOk_by (own := [("_law_begin", 5), ("_law_after", 6)]) (N := N__law_turn) (sc := defScope s__law_turn) (by decide +kernel)) (fun _ _ _ _ _ => pg_tup rfl (pgs_cons (pg_name (i := 5) sc__law_turn.nd rfl (Or.inl rfl)) (pgs_cons (pg_name (i := 6) sc__law_turn.nd rfl (Or.inl rfl)) pgs_nil))) (fun _ _ _ _ _ => pts_nil) (fun _ _ _ _ _ => pe_ix (ixK_list (K := K) (by rfl)) (pv 3) (pv 6) (fun _ _ => rfl))) pa_nil)) pa_nil)))))), ?_⟩
  refine run_spX (P := P) (w := w) hsp ?_
  rintro ⟨c, st, ins⟩ S H ht
  have ht : RunOk c st ins := ht
  have hl := ht.len
  dsimp only
  refine se_seq (se_set (ee__law_values (ea_cons (ee_dat rfl (ea_cons (ee_dat rfl (ea_cons (ee_dat rfl (ea_nil ⟨c, st, ins, rfl, ht, _, rfl, ?_⟩)))))))))
  generalize valsN c st ins = v at hl
  refine se_retD (ee_tup (ea_cons (ee_new (en_mapX c.outs nI (fun p => nI (v.getD p 0)) (es_list (ee_op (ee_dat rfl (ee_lit (n_ixT (b := 3) rfl rfl ⟨_, rfl, rfl, rfl, sz1000 ht.vok.outs, ?_, ?_⟩)))))))))
  · intro p hp
    exact ⟨_, gs_name, rfl, ee_op (ee_dat rfl (ee_dat rfl (n_ixL rfl (map_nI (by rw [hl]; exact ht.vok.out p hp)) ⟨rfl, rfl, rfl⟩)))⟩
  refine ea_cons (ee_cb (ea_cons (ee_new (en_mapX c.mems enM (fun m => nI (v.getD m.2 0)) (es_list (ee_op (ee_dat rfl (ee_lit (n_ixT (b := 1) rfl rfl ⟨_, rfl, rfl, rfl, sz1000 ht.vok.mems, ?_, ?_⟩)))))))))
  · intro m hm
    exact ⟨_, gs_tup2, rfl, ee_op (ee_dat rfl (ee_dat rfl (n_ixL rfl (map_nI (by rw [hl]; exact (ht.vok.mem m hm).2)) ⟨rfl, rfl, rfl⟩)))⟩
  refine ea_nil (cb_tuple (ds := c.mems.map fun m : Nat × Nat => nI (v.getD m.2 0)) (.inl rfl) (ea_nil ⟨[_, _], rfl, (by show 2 ≤ sizeLine; decide), _, rfl, rfl, _, rfl, ?_⟩))
  unfold outN aftN
  rw [nT, nL, List.map_map, List.map_map]
  rfl

end
end G
set_option Elab.async false
set_option linter.all false
set_option maxRecDepth 100000
set_option maxHeartbeats 4000000
set_option autoImplicit false
namespace G
open PySem PySem.Spec PyProof.Rows L2 D M
local macro_rules | `(tactic| walk_at "d1") => `(tactic| first
  | (with_reducible refine se_seq ?_)
  | (with_reducible refine se_next ?_)
  | (with_reducible refine se_set ?_)
  | (with_reducible refine se_retD ?_)
  | (with_reducible refine se_if ?_)
  | (with_reducible refine ee_lit ?_)
  | (with_reducible refine ee_int ?_)
  | (with_reducible refine ee_str ?_)
  | (with_reducible refine ee_bl ?_)
  | (with_reducible refine ee_non ?_)
  | (with_reducible refine ee_op ?_)
  | (with_reducible refine ee_tup ?_)
  | (with_reducible refine ee_cb ?_)
  | (with_reducible refine et_test ?_)
  | (with_reducible refine ea_nil ?_)
  | (with_reducible refine ea_cons ?_)
  | ((with_reducible refine' ee_dat ?e ?_); (case e => rfl))
  | ((with_reducible refine' ee_own ?e ?_); (case e => rfl))
  | ((with_reducible refine' ee_raw ?e ?_); (case e => rfl))
  | ((with_reducible refine' n_and ?ha ?hb ?_); (case ha => rfl); (case hb => rfl))
  | ((with_reducible refine' n_or ?ha ?hb ?_); (case ha => rfl); (case hb => rfl))
  | ((with_reducible refine' n_xor ?ha ?hb ?_); (case ha => rfl); (case hb => rfl))
  | ((with_reducible refine' n_add ?ha ?hb ?_); (case ha => rfl); (case hb => rfl))
  | ((with_reducible refine' n_sub ?ha ?hb ?hc ?_); (case ha => rfl); (case hb => rfl); (case hc => first | omega | assumption | decide))
  | ((with_reducible refine' n_mul ?ha ?hb ?hc ?_); (case ha => rfl); (case hb => rfl); (case hc => first | omega | assumption | decide))
  | ((with_reducible refine' n_shr ?ha ?hb ?_); (case ha => rfl); (case hb => rfl))
  | ((with_reducible refine' n_shl ?ha ?hb ?hc ?hd ?_); (case ha => rfl); (case hb => rfl); (case hc => first | omega | assumption | decide); (case hd => first | omega | assumption | decide))
  | ((with_reducible refine' n_lt ?ha ?hb ?_); (case ha => rfl); (case hb => rfl))
  | ((with_reducible refine' n_gt ?ha ?hb ?_); (case ha => rfl); (case hb => rfl))
  | ((with_reducible refine' n_eq ?ha ?hb ?_); (case ha => rfl); (case hb => rfl))
  | ((with_reducible refine' n_ne ?ha ?hb ?_); (case ha => rfl); (case hb => rfl))
  | (with_reducible refine ⟨_, rfl, ?_⟩)
  | (with_reducible refine ⟨_, _, rfl, ?_⟩)
  | (with_reducible refine ⟨_, _, _, rfl, ?_⟩)
  | (with_reducible refine ⟨_, _, _, _, rfl, ?_⟩)
  | exact ⟨rfl, _, rfl, rfl⟩)
local macro_rules | `(tactic| walk_at "d") => `(tactic| (repeat (walk_at "d1")))
section
variable {P : Program} {w : World} {K : PySem.W.Frag} {mg : Str → Option Value} {base : Heap}
theorem shK_nL (ns : List Nat) : ShK 1 (nL ns) := shK_lst (k := 0) fun d hd => by
  obtain ⟨x, _, rfl⟩ := List.mem_map.mp hd
  exact shK_int 0 _
theorem shK_nT (ns : List Nat) : ShK 1 (nT ns) := shK_tup (k := 0) fun d hd => by
  obtain ⟨x, _, rfl⟩ := List.mem_map.mp hd
  exact shK_int 0 _
theorem sh_gates (c : Circ) : ShK 3 (.list (c.gates.map enG)) := shK_lst (k := 2) fun d hd => by
  obtain ⟨g, _, rfl⟩ := List.mem_map.mp hd
  exact shK_pair (shK_int 1 _) (shK_nT _)
theorem shK_enC (c : Circ) : ShK 4 (enC c) := shK_tup (k := 3) fun d hd => by
  simp only [List.mem_cons, List.not_mem_nil, or_false] at hd
  rcases hd with rfl | rfl | rfl | rfl
  · exact shK_int 3 _
  · exact (shK_lst (k := 2) fun d hd => by
      obtain ⟨m, _, rfl⟩ := List.mem_map.mp hd
      exact shK_pair (shK_int 1 _) (shK_int 1 _))
  · exact (sh_gates c).mono (by decide)
  · exact (shK_nL _).mono (by decide)
theorem eqv_same {d : PyData} (h : SeqAt.shaped d = true) : PyData.eqv d d = true := SeqAt.eqv_refl d (SeqAt.canLay_of_shaped h)
theorem ne_nil (ps : List Nat) : PyData.eqv (nT ps) (.tuple []) = decide (ps = []) := by
  rw [eqv_tup]
  cases ps with
  | nil => simp [PyData.eqvAll]
  | cons p ps => simp [PyData.eqvAll]
/-- two circuits tell the same, turn by turn -/
structure AlikeOk (c d : Circ) : Prop where
  cok : VOk c
  dok : VOk d
  insE : d.ins = c.ins
  memsL : d.mems.length ≤ c.mems.length
  gatesL : (d.gates.filter fun g => !decide (g.2 = [])).length ≤ c.gates.length
  turns : ∃ Rel : List Nat → List Nat → Prop, Rel (firN c) (firN d) ∧ ∀ s t ins, Rel s t → ins.length = c.ins → (∀ b ∈ ins, b < 2) → RunOk c s ins ∧ RunOk d t ins ∧ outN c (valsN c s ins) = outN d (valsN d t ins) ∧ Rel (aftN c (valsN c s ins)) (aftN d (valsN d t ins))
structure I_alike where
  a : Addr
  c : Circ
  d : Circ
  n : Nat
abbrev sp__law_alike : Sp := spG (fun i : I_alike => [.raw (.ref i.a), .dat (enC i.c), .dat (enC i.d), .dat (nI i.n)]) (fun i _ _ => AlikeOk i.c i.d ∧ i.n ≤ 1000) (fun i => [(i.a, stC)]) (fun i r cs => r = .dat (.bool true) ∧ cs = [(i.a, stC)])
theorem ee_lalike {Ω : Wd} {δ : List AS} {R : KR} {ta : TA} {E : XK} (h : EA P w ta Ω δ fun rs Ω1 δ1 => ∃ S0 H0 M a c d n, Ω1 = Wd.sym S0 H0 M [(a, stC)] ∧ rs = [.raw (.ref a), .dat (enC c), .dat (enC d), .dat (nI n)] ∧ AlikeOk c d ∧ n ≤ 1000 ∧ R (.dat (.bool true)) Ω1 δ1) : EE P w (tCall sp__law_alike [] E ta) Ω δ R :=
  ee_callG (h.imp fun rs Ω1 δ1 ⟨S0, H0, M, a, c, d, n, e1, e2, h1, h2, z⟩ => ⟨⟨a, c, d, n⟩, S0, H0, M, [], e1, e2, by simp, fun _ _ _ _ => ⟨h1, h2⟩, fun r cs _ ⟨e3, e4⟩ => by
    subst e3 e4
    have := z
    rw [e1] at this
    exact this⟩) fun i r cs ⟨e, _⟩ j => by rw [e]; exact fun z => nomatch z

abbrev N__law_alike : List Str := ["_law_state_here", "_law_circuit_here", "_law_lean", "_law_many", "_law_gate_here", "_law_mine", "_law_theirs", "_law_k", "_law_bits", "_law_j", "_law_outs", "_law_others"]
theorem sc__law_alike : FnScope N__law_alike ["_law_state_here", "_law_circuit_here", "_law_lean", "_law_many"] (defScope s__law_alike) := ⟨rfl, rfl, rfl, by decide +kernel, rfl, by decide +kernel, by decide +kernel⟩
theorem ok__law_alike {k : Nat} {f : Addr} {fd : FuncData} (F : FnP K "_law_alike" "_law_alike" s__law_alike f fd) (T : Fx mg) (c__law_first : Cal P w K mg base k "_law_first" ["_law_circuit_here"] sp__law_first) (c__law_next : Cal P w K mg base k "_law_next" ["_law_state_here", "_law_many"] sp__law_next) (c__law_turn : Cal P w K mg base k "_law_turn" ["_law_circuit_here", "_law_state_here", "_law_ins"] sp__law_turn) : FnOk P w K mg base CX0 (k + 1) f fd ["_law_state_here", "_law_circuit_here", "_law_lean", "_law_many"] sp__law_alike := by
  refine F.ok sc__law_alike (spG_len fun _ => rfl) (fun cdv A outer s H vs Q E hr hsp => ?_)
  refine ⟨_, PSs.nox (pss_cons (ps_if (PW.pt (pw_or (pt_cmpR (op_neD hr.units) (pe_ix ix_tup (pv 2) pe_int (fun _ _ => rfl)) (pe_ix ix_tup (pv 1) pe_int (fun _ _ => rfl)) (nomark _)) (pw_or1 (pt_cmpR op_gt (pe_callB call_len2 (by rfl) T.len PySem.boot_len (pa_cons (pe_ix ix_tup (pv 2) pe_int (fun _ _ => rfl)) pa_nil)) (pe_callB call_len2 (by rfl) T.len PySem.boot_len (pa_cons (pe_ix ix_tup (pv 1) pe_int (fun _ _ => rfl)) pa_nil)) (nomark _)))))
    (pss_one (ps_ret pe_bl))
    pss_nil)
    (pss_cons (ps_if (pt_cmpR op_gt (pe_callB call_len2 (by rfl) T.len PySem.boot_len (pa_cons (pe_lc (own := [("_law_gate_here", 4)]) (g := gName 4) (by rfl) sc__law_alike.nd (pi_list (pe_ix ix_tup (pv 2) pe_int (fun _ _ => rfl))) (blkOk_by (own := [("_law_gate_here", 4)]) (N := N__law_alike) (sc := defScope s__law_alike) (by decide +kernel)) (fun _ _ _ _ _ => pg_name (i := 4) sc__law_alike.nd rfl (Or.inl rfl)) (fun _ _ _ _ _ => pts_one (pt_cmpR (opK_neD (K := K) (by rfl) hr.units) (pe_ix (ixK_tup (K := K) (by rfl)) (pv 4) pe_int (fun _ _ => rfl)) (pe_tup pa_nil) (nomark _))) (fun _ _ _ _ _ => pv 4)) pa_nil)) (pe_callB call_len2 (by rfl) T.len PySem.boot_len (pa_cons (pe_ix ix_tup (pv 1) pe_int (fun _ _ => rfl)) pa_nil)) (nomark _))
    (pss_one (ps_ret pe_bl))
    pss_nil)
    (pss_cons (ps_set (i := 5) sc__law_alike.nd rfl (Or.inl rfl) (pe_cal c__law_first hr (by rfl) (pa_cons (pv 1) pa_nil)))
    (pss_cons (ps_set (i := 6) sc__law_alike.nd rfl (Or.inl rfl) (pe_cal c__law_first hr (by rfl) (pa_cons (pv 2) pa_nil)))
    (pss_cons (ps_for PassesOwn.never rfl (pi_range1 (by rfl) T.range (pa_cons (pv 3) pa_nil)) (pg_name (i := 7) sc__law_alike.nd rfl (Or.inl rfl))
    (pss_cons (ps_setLc (i := 8) (own := [("_law_j", 9)]) (g := gName 9) (by rfl) sc__law_alike.nd rfl rfl (sw_true rfl rfl rfl (by decide +kernel)) (pi_range1 (by rfl) T.range (pa_cons (pe_ix ix_tup (pv 1) pe_int (fun _ _ => rfl)) pa_nil)) (blkOk_by (own := [("_law_j", 9)]) (N := N__law_alike) (sc := defScope s__law_alike) (by decide +kernel)) (fun _ _ _ _ _ => pg_name (i := 9) sc__law_alike.nd rfl (Or.inl rfl)) (fun _ _ _ _ _ => pts_nil) (fun _ _ _ _ _ => pe_cal c__law_next hr (by rfl) (pa_cons (pv 0) (pa_cons pe_int pa_nil))))
    (pss_cons (ps_asg (pe_cal c__law_turn hr (by rfl) (pa_cons (pv 1) (pa_cons (pv 5) (pa_cons (pv 8) pa_nil)))) (pg_tup rfl (pgs_cons (pg_name (i := 10) sc__law_alike.nd rfl (Or.inl rfl)) (pgs_cons (pg_name (i := 5) sc__law_alike.nd rfl (Or.inl rfl)) pgs_nil))))
    (pss_cons (ps_asg (pe_cal c__law_turn hr (by rfl) (pa_cons (pv 2) (pa_cons (pv 6) (pa_cons (pv 8) pa_nil)))) (pg_tup rfl (pgs_cons (pg_name (i := 11) sc__law_alike.nd rfl (Or.inl rfl)) (pgs_cons (pg_name (i := 6) sc__law_alike.nd rfl (Or.inl rfl)) pgs_nil))))
    (pss_one (ps_if (pt_cmpR (op_neD hr.units) (pv 10) (pv 11) (nomark _))
    (pss_one (ps_ret pe_bl))
    pss_nil))))))
    (pss_one (ps_ret pe_bl))))))), ?_⟩
  refine run_spG (P := P) (w := w) hsp ?_
  rintro ⟨a, c, d, n⟩ S H ⟨ha, hn⟩
  dsimp only at ha hn ⊢
  refine se_seq (se_if (et_orB (p := false) (q := false) ?_ (fun _ => ?_) ⟨(fun z => nomatch z), fun _ => se_next ?_⟩))
  · refine et_test (ee_op (ee_op (ee_dat rfl (ee_lit (n_ixT (b := 0) rfl rfl (ee_op (ee_dat rfl (ee_lit (n_ixT (b := 0) rfl rfl (n_ne rfl rfl ⟨_, rfl, ?_, rfl, rfl⟩))))))))))
    rw [ha.insE]
    simp
  · refine et_test (ee_op (ee_cb (ea_cons (ee_op (ee_dat rfl (ee_lit (n_ixT (b := 1) rfl rfl (ea_nil (cb_len (ds := d.mems.map enM) (.inl rfl) (ee_cb (ea_cons (ee_op (ee_dat rfl (ee_lit (n_ixT (b := 1) rfl rfl (ea_nil (cb_len (ds := c.mems.map enM) (.inl rfl) (n_gt rfl rfl ⟨_, rfl, ?_, rfl, rfl⟩))))))))))))))))))
    rw [List.length_map, List.length_map]
    exact decide_eq_false (by have := ha.memsL; omega)
  refine se_seq (se_if (et_test (ee_op (ee_cb (ea_cons (ee_new (en_filtX d.gates enG enG (fun g => !decide (g.2 = [])) (es_list (ee_op (ee_dat rfl (ee_lit (n_ixT (b := 2) rfl rfl ⟨_, rfl, rfl, rfl, sz1000 ha.dok.gates, ?_, ?_⟩))))))))))))
  · intro g hg
    refine ⟨_, gs_name, rfl, et_test (ee_op (ee_op (ee_dat rfl (ee_lit (n_ixT (b := 1) rfl rfl (ee_tup (ea_nil ⟨[], rfl, by decide, o2_neD ((shK_nT _).shaped (by decide)) (by decide +kernel) ⟨_, rfl, rfl, rfl, ?_, fun _ => ee_dat rfl ⟨rfl, rfl, rfl⟩⟩⟩)))))))⟩
    rw [ne_nil]
  · refine ea_nil (cb_len (ds := (d.gates.filter fun g : Gate => !decide (g.2 = [])).map enG) (.inl rfl) (ee_cb (ea_cons (ee_op (ee_dat rfl (ee_lit (n_ixT (b := 2) rfl rfl (ea_nil (cb_len (ds := c.gates.map enG) (.inl rfl) (n_gt rfl rfl ⟨_, rfl, fun hb => ?_, fun hb => se_next ?_⟩))))))))))
    · rw [List.length_map, List.length_map] at hb
      have := of_decide_eq_true hb
      have := ha.gatesL
      omega
    refine se_seq (se_set (ee__law_first (ea_cons (ee_dat rfl (ea_nil ⟨c, rfl, ha.cok.mems, _, rfl, ?_⟩)))))
    refine se_seq (se_set (ee__law_first (ea_cons (ee_dat rfl (ea_nil ⟨d, rfl, ha.dok.mems, _, rfl, ?_⟩)))))
    obtain ⟨Rel, hr0, hrs⟩ := ha.turns
    refine se_seq (se_forX (List.range n) nI (fun _ Ω' δ' => Ω' = Wd.sym S H [a] [(a, stC)] ∧ ∃ s t b7 b8 b10 b11, Rel s t ∧ AS.mine b8 = false ∧ δ' = [.raw (.ref a), .dat (enC c), .dat (enC d), .dat (nI n), .un, .dat (nT s), .dat (nT t), b7, b8, .un, b10, b11]) (es_range1 (ea_cons (ee_dat rfl (ea_nil ⟨n, rfl, by omega, rangeD0 _, ⟨rfl, firN c, firN d, .un, .un, .un, .un, hr0, rfl, rfl⟩, ?_, fun Ω' δ' ⟨e, s, t, b7, b8, b10, b11, hst, hm8, e2⟩ => ?_⟩)))))
    · rintro pre i r Ω' δ' hx ⟨rfl, s, t, b7, b8, b10, b11, hst, hm8, rfl⟩
      refine ⟨_, gs_name, ?_⟩
      refine se_seq (se_set (ee_new (en_lcX (List.range c.ins) nI (fun r Ω' acc => Ω' = Wd.sym S H [a] [(a, stC)] ∧ ∃ bs : List Nat, acc = bs.map nI ∧ bs.length + r.length = c.ins ∧ ∀ b ∈ bs, b < 2) (es_range1 (ea_cons (ee_op (ee_dat rfl (ee_lit (n_ixT (b := 0) rfl rfl (ea_nil ⟨c.ins, rfl, Nat.le_trans ha.cok.ins (by decide), rangeD0 _, rfl, ?_, ⟨rfl, [], rfl, by simp, fun _ z => (nomatch z)⟩, ?_, ?_⟩))))))))))
      · rw [List.length_range]
        exact sz1000 ha.cok.ins
      · rintro pre x r Ω' acc hx - ⟨rfl, bs, rfl, hbl, hbs⟩
        rw [List.length_cons] at hbl
        refine ⟨_, gs_name, rfl, et_yes ⟨rfl, fun _ => ?_, fun z => nomatch z⟩⟩
        refine ee_next (ea_cons (ee_raw rfl (ea_cons (ee_lit (ea_nil ⟨S, H, _, a, 2, rfl, rfl, by decide, by decide, fun v hv => ⟨rfl, _, rfl, rfl, bs ++ [v], ?_, ?_, ?_⟩⟩)))))
        · rw [List.map_append]
          rfl
        · rw [List.length_append, List.length_singleton]
          omega
        · intro p hp
          rcases List.mem_append.mp hp with hp | hp
          · exact hbs p hp
          · rw [List.mem_singleton.mp hp]
            exact hv
      rintro Ω' acc - ⟨rfl, bs, rfl, hbl, hbs⟩
      obtain ⟨t1, t2, t3, t4⟩ := hrs s t bs hst (by simpa using hbl) hbs
      refine ⟨_, rfl, ?_⟩
      refine se_seq (se_asg (ee__law_turn (ea_cons (ee_dat rfl (ea_cons (ee_dat rfl (ea_cons (ee_dat rfl (ea_nil ⟨c, s, bs, rfl, t1, _, _, rfl, gs_tup2, ?_⟩)))))))))
      refine se_seq (se_asg (ee__law_turn (ea_cons (ee_dat rfl (ea_cons (ee_dat rfl (ea_cons (ee_dat rfl (ea_nil ⟨d, t, bs, rfl, t2, _, _, rfl, gs_tup2, ?_⟩)))))))))
      refine se_if (et_test (ee_op (ee_dat rfl (ee_dat rfl (o2_neD (shaped_nL _) (shaped_nL _) ⟨_, rfl, fun hb => ?_, fun hb => se_next ⟨rfl, _, _, .dat (nI i), .dat (nL bs), _, _, t4, rfl, rfl⟩⟩)))))
      rw [← t3, eqv_same (shaped_nL _)] at hb
      exact nomatch hb
    · subst e e2
      exact se_retD (ee_bl ⟨_, rfl, _, rfl, (fun i z => nomatch z), rfl, rfl⟩)

end
end G
set_option Elab.async false
set_option linter.all false
set_option maxRecDepth 100000
set_option maxHeartbeats 4000000
set_option autoImplicit false
namespace G
open PySem PySem.Spec PyProof.Rows L2 D M
local macro_rules | `(tactic| walk_at "d1") => `(tactic| first
  | (with_reducible refine se_seq ?_)
  | (with_reducible refine se_next ?_)
  | (with_reducible refine se_set ?_)
  | (with_reducible refine se_retD ?_)
  | (with_reducible refine se_if ?_)
  | (with_reducible refine ee_lit ?_)
  | (with_reducible refine ee_int ?_)
  | (with_reducible refine ee_str ?_)
  | (with_reducible refine ee_bl ?_)
  | (with_reducible refine ee_non ?_)
  | (with_reducible refine ee_op ?_)
  | (with_reducible refine ee_tup ?_)
  | (with_reducible refine ee_cb ?_)
  | (with_reducible refine et_test ?_)
  | (with_reducible refine ea_nil ?_)
  | (with_reducible refine ea_cons ?_)
  | ((with_reducible refine' ee_dat ?e ?_); (case e => rfl))
  | ((with_reducible refine' ee_own ?e ?_); (case e => rfl))
  | ((with_reducible refine' ee_raw ?e ?_); (case e => rfl))
  | ((with_reducible refine' n_and ?ha ?hb ?_); (case ha => rfl); (case hb => rfl))
  | ((with_reducible refine' n_or ?ha ?hb ?_); (case ha => rfl); (case hb => rfl))
  | ((with_reducible refine' n_xor ?ha ?hb ?_); (case ha => rfl); (case hb => rfl))
  | ((with_reducible refine' n_add ?ha ?hb ?_); (case ha => rfl); (case hb => rfl))
  | ((with_reducible refine' n_sub ?ha ?hb ?hc ?_); (case ha => rfl); (case hb => rfl); (case hc => first | omega | assumption | decide))
  | ((with_reducible refine' n_mul ?ha ?hb ?hc ?_); (case ha => rfl); (case hb => rfl); (case hc => first | omega | assumption | decide))
  | ((with_reducible refine' n_shr ?ha ?hb ?_); (case ha => rfl); (case hb => rfl))
  | ((with_reducible refine' n_shl ?ha ?hb ?hc ?hd ?_); (case ha => rfl); (case hb => rfl); (case hc => first | omega | assumption | decide); (case hd => first | omega | assumption | decide))
  | ((with_reducible refine' n_lt ?ha ?hb ?_); (case ha => rfl); (case hb => rfl))
  | ((with_reducible refine' n_gt ?ha ?hb ?_); (case ha => rfl); (case hb => rfl))
  | ((with_reducible refine' n_eq ?ha ?hb ?_); (case ha => rfl); (case hb => rfl))
  | ((with_reducible refine' n_ne ?ha ?hb ?_); (case ha => rfl); (case hb => rfl))
  | (with_reducible refine ⟨_, rfl, ?_⟩)
  | (with_reducible refine ⟨_, _, rfl, ?_⟩)
  | (with_reducible refine ⟨_, _, _, rfl, ?_⟩)
  | (with_reducible refine ⟨_, _, _, _, rfl, ?_⟩)
  | exact ⟨rfl, _, rfl, rfl⟩)
local macro_rules | `(tactic| walk_at "d") => `(tactic| (repeat (walk_at "d1")))
section
variable {P : Program} {w : World} {K : PySem.W.Frag} {mg : Str → Option Value} {base : Heap}
/-- numbers, and lists and tuples of such, so deep -/
def IsCp : Nat → PyData → Prop
  | 0, _ => False
  | n + 1, d => (∃ i : Nat, d = nI i) ∨ ∃ ds, (d = .list ds ∨ d = .tuple ds) ∧ ds.length ≤ 1000 ∧ ∀ x ∈ ds, IsCp n x
theorem cp_int (n i : Nat) : IsCp (n + 1) (nI i) := .inl ⟨i, rfl⟩
theorem cp_nats {n : Nat} {ns : List Nat} : ∀ x ∈ ns.map nI, IsCp (n + 1) x := fun x hx => by
  obtain ⟨i, _, rfl⟩ := List.mem_map.mp hx
  exact cp_int n i
theorem cp_enC {c : Circ} (h : VOk c) : IsCp 5 (enC c) := by
  refine .inr ⟨_, .inr rfl, by show 4 ≤ 1000; decide, fun x hx => ?_⟩
  simp only [List.mem_cons, List.not_mem_nil, or_false] at hx
  rcases hx with rfl | rfl | rfl | rfl
  · exact cp_int 3 _
  · refine .inr ⟨_, .inl rfl, by rw [List.length_map]; exact h.mems, fun x hx => ?_⟩
    obtain ⟨m, _, rfl⟩ := List.mem_map.mp hx
    exact .inr ⟨_, .inr rfl, by show 2 ≤ 1000; decide, cp_nats (ns := [m.1, m.2])⟩
  · refine .inr ⟨_, .inl rfl, by rw [List.length_map]; exact h.gates, fun x hx => ?_⟩
    obtain ⟨g, hg, rfl⟩ := List.mem_map.mp hx
    refine .inr ⟨_, .inr rfl, by show 2 ≤ 1000; decide, fun y hy => ?_⟩
    simp only [List.mem_cons, List.not_mem_nil, or_false] at hy
    obtain ⟨j, hj, rfl⟩ := List.getElem_of_mem hg
    rcases hy with rfl | rfl
    · exact cp_int 1 _
    · refine .inr ⟨_, .inr rfl, by rw [List.length_map]; exact Nat.le_trans (h.gate j _ (List.getElem?_eq_getElem hj)).1 (by decide), cp_nats⟩
  · exact .inr ⟨_, .inl rfl, by rw [List.length_map]; exact h.outs, cp_nats⟩
theorem cokV {c : Circ} (h : COk c) : VOk c := ⟨h.mem, fun i g hg => ⟨(h.gate i g hg).1, (h.gate i g hg).2.2⟩, h.out, Nat.le_trans h.ins (by decide), Nat.le_trans h.mems (by decide), Nat.le_trans h.gates (by decide), Nat.le_trans h.outs (by decide)⟩
theorem CBnd.mono {c : Circ} {a b d e a' b' d' e' : Nat} (h : CBnd c a b d e) (h1 : a ≤ a') (h2 : b ≤ b') (h3 : d ≤ d') (h4 : e ≤ e') : CBnd c a' b' d' e' := ⟨h.mem, h.gate, h.out, Nat.le_trans h.ins h1, Nat.le_trans h.mems h2, Nat.le_trans h.gates h3, Nat.le_trans h.outs h4⟩
theorem CBnd.cok {c : Circ} (h : CBnd c 9 9 30 9) : COk c := ⟨h.mem, h.gate, h.out, Nat.le_trans h.ins (by decide), Nat.le_trans h.mems (by decide), Nat.le_trans h.gates (by decide), Nat.le_trans h.outs (by decide)⟩
abbrev sp__law_copied (n : Nat) : Sp := spX (fun d : PyData => [d]) (fun d => IsCp n d) (fun d e => e = d)
theorem ee__law_copied {n : Nat} {Ω : Wd} {δ : List AS} {R : KR} {ta : TA} {E : XK} (h : EA P w ta Ω δ fun rs Ω1 δ1 => ∃ d : PyData, rs = [.dat d] ∧ IsCp n d ∧ R (.dat d) Ω1 δ1) : EE P w (tCall (sp__law_copied n) [] E ta) Ω δ R :=
  ee_call fun σ S H g Q q => h σ S H g Q fun vs rs Ω' δ' S' H' ⟨d, e, hp, z⟩ => q vs rs Ω' δ' S' H' ⟨d, e, hp, fun d hd => by subst hd; exact z⟩
theorem ee_tidied {Ω : Wd} {δ : List AS} {R : KR} {ta : TA} {E : XK} (h : EA P w ta Ω δ fun rs Ω1 δ1 => ∃ c : Circ, rs = [.dat (enC c)] ∧ COk c ∧ ∀ e, R (.dat (.tuple [enC (tidyN c), e])) Ω1 δ1) : EE P w (tCall sp_tidied [] E ta) Ω δ R :=
  ee_call fun σ S H g Q q => h σ S H g Q fun vs rs Ω' δ' S' H' ⟨c, e, hp, z⟩ => q vs rs Ω' δ' S' H' ⟨c, e, hp, fun d ⟨e2, hd⟩ => by subst hd; exact z e2⟩
abbrev sp_law (K : PySem.W.Frag) : Sp := spG (fun i : I_state => [.raw (.ref i.a)]) (fun i S H => SqL K H i.a (i.ns.map V.int) ∧ i.ns.length ≤ 63) (fun _ => []) (fun i r cs => r = .dat (.bool true) ∧ ∃ b, cs = [(b, stC)])

abbrev N_law : List Str := ["_law_script", "_law_state_here", "_law_one", "_law_other", "_law_kept", "_law_first_here", "_law_second", "_law_many"]
theorem sc_law : FnScope N_law ["_law_script"] (defScope s_law) := ⟨rfl, rfl, rfl, by decide +kernel, rfl, by decide +kernel, by decide +kernel⟩
theorem ok_law {k : Nat} {f : Addr} {fd : FuncData} (F : FnP K "law" "law" s_law f fd) (T : Fx mg) (hmath : ∀ c, COk c → AlikeOk c (tidyN c)) (c__law_alike : Cal P w K mg base k "_law_alike" ["_law_state_here", "_law_circuit_here", "_law_lean", "_law_many"] sp__law_alike) (c__law_circuit : Cal P w K mg base k "_law_circuit" ["_law_state_here", "_law_most"] sp__law_circuit) (c__law_copied : Cal P w K mg base k "_law_copied" ["_law_thing"] (sp__law_copied 6)) (c__law_next : Cal P w K mg base k "_law_next" ["_law_state_here", "_law_many"] sp__law_next) (c__law_otherwise : Cal P w K mg base k "_law_otherwise" ["_law_state_here", "_law_circuit_here", "_law_most"] sp__law_otherwise) (c__law_state : Cal P w K mg base k "_law_state" ["_law_script"] (sp__law_state K)) (c_tidied : Cal P w K mg base k "tidied" ["circuit"] sp_tidied) : FnOk P w K mg base CX0 (k + 1) f fd ["_law_script"] (sp_law K) := by
  refine F.ok sc_law (spG_len fun _ => rfl) (fun cdv A outer s H vs Q E hr hsp => ?_)
  refine ⟨_, PSs.nox (pss_cons (ps_set (i := 1) sc_law.nd rfl (Or.inl rfl) (pe_cal c__law_state hr (by rfl) (pa_cons (pv 0) pa_nil)))
    (pss_cons (ps_set (i := 2) sc_law.nd rfl (Or.inl rfl) (pe_cal c__law_circuit hr (by rfl) (pa_cons (pv 1) (pa_cons (pe_ix ix_list (pe_lst (pa_cons (pe_lst (pa_cons pe_int (pa_cons pe_int (pa_cons pe_int (pa_cons pe_int pa_nil))))) (pa_cons (pe_lst (pa_cons pe_int (pa_cons pe_int (pa_cons pe_int (pa_cons pe_int pa_nil))))) pa_nil))) (pe_callTy call_int1' (by rfl) T.int (by decide +kernel) (pa_cons (pe_cmpR (op_eqD hr.units) (pe_cal c__law_next hr (by rfl) (pa_cons (pv 1) (pa_cons pe_int pa_nil))) pe_int (nomark _)) pa_nil)) (fun _ _ => rfl)) pa_nil))))
    (pss_cons (ps_if (pt_cmpR (op_eqD hr.units) (pe_cal c__law_next hr (by rfl) (pa_cons (pv 1) (pa_cons pe_int pa_nil))) pe_int (nomark _))
    (pss_one (ps_set (i := 2) sc_law.nd rfl (Or.inl rfl) (pe_cal c__law_otherwise hr (by rfl) (pa_cons (pv 1) (pa_cons (pv 2) (pa_cons pe_int pa_nil))))))
    pss_nil)
    (pss_cons (ps_set (i := 3) sc_law.nd rfl (Or.inl rfl) (pe_cal c__law_circuit hr (by rfl) (pa_cons (pv 1) (pa_cons (pe_lst (pa_cons pe_int (pa_cons pe_int (pa_cons pe_int (pa_cons pe_int pa_nil))))) pa_nil))))
    (pss_cons (ps_set (i := 4) sc_law.nd rfl (Or.inl rfl) (pe_cal c__law_copied hr (by rfl) (pa_cons (pe_tup (pa_cons (pv 2) (pa_cons (pv 3) pa_nil))) pa_nil)))
    (pss_cons (ps_set (i := 5) sc_law.nd rfl (Or.inl rfl) (pe_ix ix_tup (pe_cal c_tidied hr (by rfl) (pa_cons (pv 2) pa_nil)) pe_int (fun _ _ => rfl)))
    (pss_cons (ps_set (i := 6) sc_law.nd rfl (Or.inl rfl) (pe_ix ix_tup (pe_cal c_tidied hr (by rfl) (pa_cons (pv 3) pa_nil)) pe_int (fun _ _ => rfl)))
    (pss_cons (ps_set (i := 7) sc_law.nd rfl (Or.inl rfl) (pe_op op_add (pe_callB call_len2 (by rfl) T.len PySem.boot_len (pa_cons (pe_slice sl_list (pv 0) po_none (po_some pe_int)) pa_nil)) pe_int))
    (pss_cons (ps_if (PW.pt (pw_or (pt_not (pt_val (pe_cal c__law_alike hr (by rfl) (pa_cons (pv 1) (pa_cons (pv 2) (pa_cons (pv 5) (pa_cons (pv 7) pa_nil))))))) (pw_or1 (pt_not (pt_val (pe_cal c__law_alike hr (by rfl) (pa_cons (pv 1) (pa_cons (pv 3) (pa_cons (pv 6) (pa_cons (pv 7) pa_nil))))))))))
    (pss_one (ps_ret pe_bl))
    pss_nil)
    (pss_one (ps_ret (pe_and (pe_cmpR (op_eqD hr.units) (pe_ix ix_tup (pe_cal c_tidied hr (by rfl) (pa_cons (pv 2) pa_nil)) pe_int (fun _ _ => rfl)) (pv 5) (nomark _)) (pe_one (pe_cmpR (op_eqD hr.units) (pe_tup (pa_cons (pv 2) (pa_cons (pv 3) pa_nil))) (pv 4) (nomark _))))))))))))))), ?_⟩
  refine run_spG (P := P) (w := w) hsp ?_
  rintro ⟨a, ns⟩ S H ⟨hq, hl⟩
  dsimp only at hq hl ⊢
  refine se_seq (se_setV (ee_callG (hr := fun i r cs ⟨b, e, _⟩ j => by rw [e]; exact fun z => nomatch z) (ea_cons (ee_raw rfl (ea_nil ⟨⟨a, ns⟩, S, H, [], [], rfl, rfl, by simp, fun S' H' e hw => ⟨hasL_old hq S' H' e hw, hl⟩, ?_⟩)))))
  rintro r cs - ⟨b, rfl, rfl⟩
  refine ⟨_, rfl, ?_⟩
  refine se_seq (SE.imp (p := ⟨fun Ω' δ' => Ω' = Wd.sym S H [] [(b, stC)] ∧ ∃ c, CBnd c 9 9 30 9 ∧ δ' = [.raw (.ref a), .raw (.ref b), .dat (enC c), .un, .un, .un, .un, .un], fun _ _ => False, fun _ _ => False, fun _ _ => False⟩) ?_ ?_ (fun _ _ z => z.elim) (fun _ _ z => z.elim) (fun _ _ z => z.elim))
  · refine se_set (ee_lcircuit (ea_cons (ee_raw rfl (ea_cons (ee_op (ee_new (en_lst (ea_cons (ee_new (en_lst (ea_cons (ee_lit (ea_cons (ee_lit (ea_cons (ee_lit (ea_cons (ee_lit (ea_nil ⟨[_, _, _, _], rfl, (by show 4 ≤ sizeLine; decide), ea_cons (ee_new (en_lst (ea_cons (ee_lit (ea_cons (ee_lit (ea_cons (ee_lit (ea_cons (ee_lit (ea_nil ⟨[_, _, _, _], rfl, (by show 4 ≤ sizeLine; decide), ea_nil ⟨[_, _], rfl, (by show 2 ≤ sizeLine; decide), ee_cb (ea_cons (ee_op (ee_next (ea_cons (ee_raw rfl (ea_cons (ee_lit (ea_nil ⟨S, H, _, b, 8, rfl, rfl, by decide, by decide, fun v hv => ee_lit (n_eq rfl rfl (ea_nil (cb_int1 ?_)))⟩))))))))⟩⟩)))))))))))⟩)))))))))))))))))))
    by_cases hv0 : v = 0
    · rw [decide_eq_true hv0]
      exact n_ixL (b := 1) rfl rfl (ea_nil ⟨S, H, _, b, 9, 9, 30, 9, rfl, rfl, by decide, fun c hc => ⟨_, rfl, rfl, c, hc, rfl⟩⟩)
    · rw [decide_eq_false hv0]
      exact n_ixL (b := 0) rfl rfl (ea_nil ⟨S, H, _, b, 4, 6, 20, 6, rfl, rfl, by decide, fun c hc => ⟨_, rfl, rfl, c, hc.mono (by decide) (by decide) (by decide) (by decide), rfl⟩⟩)
  rintro Ω' δ' ⟨rfl, c, hc, rfl⟩
  refine se_seq (SE.imp (p := ⟨fun Ω' δ' => Ω' = Wd.sym S H [] [(b, stC)] ∧ ∃ c, COk c ∧ δ' = [.raw (.ref a), .raw (.ref b), .dat (enC c), .un, .un, .un, .un, .un], fun _ _ => False, fun _ _ => False, fun _ _ => False⟩) ?_ ?_ (fun _ _ z => z.elim) (fun _ _ z => z.elim) (fun _ _ z => z.elim))
  · refine se_if (et_test (ee_op (ee_next (ea_cons (ee_raw rfl (ea_cons (ee_lit (ea_nil ⟨S, H, _, b, 2, rfl, rfl, by decide, by decide, fun v hv => ee_lit (n_eq rfl rfl ⟨_, rfl, fun hb => ?_, fun hb => se_next ⟨rfl, c, hc.cok, rfl⟩⟩)⟩))))))))
    exact se_set (ee_lother (ea_cons (ee_raw rfl (ea_cons (ee_dat rfl (ea_cons (ee_lit (ea_nil ⟨S, H, _, b, c, 4, rfl, rfl, hc, by decide, fun c' hc' => ⟨_, rfl, rfl, c', hc', rfl⟩⟩))))))))
  clear hc c
  rintro Ω' δ' ⟨rfl, c, hc, rfl⟩
  refine se_seq (se_set (ee_lcircuit (ea_cons (ee_raw rfl (ea_cons (ee_new (en_lst (ea_cons (ee_lit (ea_cons (ee_lit (ea_cons (ee_lit (ea_cons (ee_lit (ea_nil ⟨[_, _, _, _], rfl, (by show 4 ≤ sizeLine; decide), ea_nil ⟨S, H, _, b, 2, 3, 6, 3, rfl, rfl, by decide, fun o ho => ⟨_, rfl, ?_⟩⟩⟩))))))))))))))))
  have ho : COk o := (ho.mono (by decide) (by decide) (by decide) (by decide) : CBnd o 9 9 30 9).cok
  refine se_seq (se_set (ee__law_copied (ea_cons (ee_tup (ea_cons (ee_dat rfl (ea_cons (ee_dat rfl (ea_nil ⟨[_, _], rfl, (by show 2 ≤ sizeLine; decide), ea_nil ⟨_, rfl, ?_, _, rfl, ?_⟩⟩)))))))))
  · refine .inr ⟨_, .inr rfl, by show 2 ≤ 1000; decide, fun x hx => ?_⟩
    simp only [List.mem_cons, List.not_mem_nil, or_false] at hx
    rcases hx with rfl | rfl
    · exact cp_enC (cokV hc)
    · exact cp_enC (cokV ho)
  refine se_seq (se_set (ee_op (ee_tidied (ea_cons (ee_dat rfl (ea_nil ⟨c, rfl, hc, fun e => ee_lit (n_ixT (b := 0) rfl rfl ⟨_, rfl, ?_⟩)⟩))))))
  refine se_seq (se_set (ee_op (ee_tidied (ea_cons (ee_dat rfl (ea_nil ⟨o, rfl, ho, fun e2 => ee_lit (n_ixT (b := 0) rfl rfl ⟨_, rfl, ?_⟩)⟩))))))
  have hcut : cutD (ns.map PyData.int) none (some 40) = (ns.take 40).map PyData.int := cut_ints ns 40
  have htk : (ns.take 40).length ≤ 40 := by rw [List.length_take]; omega
  refine se_seq (se_set (ee_op (ee_cb (ea_cons (ee_new (en_slH (ee_raw rfl (eo_none (eo_some (ee_int ⟨40, rfl, a, ns, rfl, hasL_old hq, ea_nil ?_⟩))))))))))
  rw [hcut]
  refine cb_len (ds := (ns.take 40).map PyData.int) (.inl rfl) (ee_lit ?_)
  rw [List.length_map]
  refine n_add rfl rfl ⟨_, rfl, ?_⟩
  refine se_seq (se_if (et_orB (p := false) (q := false) ?_ (fun _ => ?_) ⟨(fun z => nomatch z), fun _ => se_next ?_⟩))
  · exact et_not (et_val (ee_lalike (ea_cons (ee_raw rfl (ea_cons (ee_dat rfl (ea_cons (ee_dat rfl (ea_cons (ee_dat rfl (ea_nil ⟨S, H, _, b, c, tidyN c, _, rfl, rfl, hmath c hc, by omega, _, rfl, rfl, rfl, rfl⟩)))))))))))
  · exact et_not (et_val (ee_lalike (ea_cons (ee_raw rfl (ea_cons (ee_dat rfl (ea_cons (ee_dat rfl (ea_cons (ee_dat rfl (ea_nil ⟨S, H, _, b, o, tidyN o, _, rfl, rfl, hmath o ho, by omega, _, rfl, rfl, rfl, rfl⟩)))))))))))
  have sc := (shK_enC (tidyN c)).shaped (by decide)
  have sp := (shK_pair (shK_enC c) (shK_enC o)).shaped (by decide)
  refine se_retD (ee_andV (ee_op (ee_op (ee_tidied (ea_cons (ee_dat rfl (ea_nil ⟨c, rfl, hc, fun e3 => ee_lit (n_ixT (b := 0) rfl rfl (ee_dat rfl (o2_eqD sc sc ⟨_, rfl, fun _ => ?_, fun hb => ?_⟩)))⟩)))))))
  · refine ee_op (ee_tup (ea_cons (ee_dat rfl (ea_cons (ee_dat rfl (ea_nil ⟨[_, _], rfl, (by show 2 ≤ sizeLine; decide), ee_dat rfl (o2_eqD sp sp ?_)⟩))))))
    rw [eqv_same sp]
    exact ⟨_, rfl, _, rfl, (fun i z => nomatch z), rfl, b, rfl⟩
  · rw [eqv_same sc] at hb
    exact nomatch hb

end
end G
set_option Elab.async false
set_option linter.all false
set_option maxRecDepth 100000
set_option maxHeartbeats 4000000
set_option autoImplicit false
/-! isinstance of plain data, list and tuple. -/
namespace D
open PySem PySem.Spec PyProof.Rows L2
section
variable {P : Program} {w : World} {K : PySem.W.Frag} {Ω : Wd} {δ : List AS} {R : KR}
theorem ee_ty {v : V} (k : R (.raw v) Ω δ) : EE P w (tC v) Ω δ R := fun σ S H g Q q => q v (.raw v) Ω δ S H k g Step.refl rfl
/-- the type's name of plain data -/
def tyN : PyData → String
  | .int _ => "int"
  | .list _ => "list"
  | .tuple _ => "tuple"
  | _ => ""
theorem tyx {S : Hp} {v : V} {d : PyData} (h : Dq S v d) (hn : tyN d ≠ "") : TyX K S v (.type (tyN d)) := by
  cases d with
  | int i => rw [Dq.int_inv h]; exact .base (.int i)
  | list ds => obtain ⟨a, xs, rfl, e, _⟩ := Dq.lst_inv h; exact .base (.lst e)
  | tuple ds => obtain ⟨a, xs, rfl, e, _⟩ := Dq.tup_inv h; exact .base (.tup e)
  | none => exact absurd rfl hn
  | bool b => exact absurd rfl hn
  | str x => exact absurd rfl hn
  | dict kvs => exact absurd rfl hn
theorem cb_isi {d : PyData} {n : String} {b : Bool} (hn : tyN d ≠ "") (hk : PySem.W.kitOne K (.type (tyN d)) (.type n) = some b) (k : R (.dat (.bool b)) Ω δ) : CB P w (rIsi K) [.dat d, .raw (.ty n)] Ω δ R := fun σ S H g vs o Q q => by
  obtain ⟨v, c, rfl, o1, o2⟩ := two_of o
  cases (show c = .ty n from o2)
  have o1 : Dq S v d := o1
  exact ⟨v, .ty n, _, _, b, rfl, .ty n, tyx (o1.mono g.sub) hn, hk, q _ _ Ω δ S H k g Step.refl (.bl b)⟩
theorem kit_il : PySem.W.kitOne K (.type "int") (.type "list") = some false := rfl
theorem kit_it : PySem.W.kitOne K (.type "int") (.type "tuple") = some false := rfl
theorem kit_ll : PySem.W.kitOne K (.type "list") (.type "list") = some true := rfl
theorem kit_tl : PySem.W.kitOne K (.type "tuple") (.type "list") = some false := rfl
theorem kit_tt : PySem.W.kitOne K (.type "tuple") (.type "tuple") = some true := rfl
end
end D
set_option Elab.async false
set_option linter.all false
set_option maxRecDepth 100000
set_option maxHeartbeats 4000000
set_option autoImplicit false
namespace G
open PySem PySem.Spec PyProof.Rows L2 D M
local macro_rules | `(tactic| walk_at "d1") => `(tactic| first
  | (with_reducible refine se_seq ?_)
  | (with_reducible refine se_next ?_)
  | (with_reducible refine se_set ?_)
  | (with_reducible refine se_retD ?_)
  | (with_reducible refine se_if ?_)
  | (with_reducible refine ee_lit ?_)
  | (with_reducible refine ee_int ?_)
  | (with_reducible refine ee_str ?_)
  | (with_reducible refine ee_bl ?_)
  | (with_reducible refine ee_non ?_)
  | (with_reducible refine ee_op ?_)
  | (with_reducible refine ee_tup ?_)
  | (with_reducible refine ee_cb ?_)
  | (with_reducible refine et_test ?_)
  | (with_reducible refine ea_nil ?_)
  | (with_reducible refine ea_cons ?_)
  | ((with_reducible refine' ee_dat ?e ?_); (case e => rfl))
  | ((with_reducible refine' ee_own ?e ?_); (case e => rfl))
  | ((with_reducible refine' ee_raw ?e ?_); (case e => rfl))
  | ((with_reducible refine' n_and ?ha ?hb ?_); (case ha => rfl); (case hb => rfl))
  | ((with_reducible refine' n_or ?ha ?hb ?_); (case ha => rfl); (case hb => rfl))
  | ((with_reducible refine' n_xor ?ha ?hb ?_); (case ha => rfl); (case hb => rfl))
  | ((with_reducible refine' n_add ?ha ?hb ?_); (case ha => rfl); (case hb => rfl))
  | ((with_reducible refine' n_sub ?ha ?hb ?hc ?_); (case ha => rfl); (case hb => rfl); (case hc => first | omega | assumption | decide))
  | ((with_reducible refine' n_mul ?ha ?hb ?hc ?_); (case ha => rfl); (case hb => rfl); (case hc => first | omega | assumption | decide))
  | ((with_reducible refine' n_shr ?ha ?hb ?_); (case ha => rfl); (case hb => rfl))
  | ((with_reducible refine' n_shl ?ha ?hb ?hc ?hd ?_); (case ha => rfl); (case hb => rfl); (case hc => first | omega | assumption | decide); (case hd => first | omega | assumption | decide))
  | ((with_reducible refine' n_lt ?ha ?hb ?_); (case ha => rfl); (case hb => rfl))
  | ((with_reducible refine' n_gt ?ha ?hb ?_); (case ha => rfl); (case hb => rfl))
  | ((with_reducible refine' n_eq ?ha ?hb ?_); (case ha => rfl); (case hb => rfl))
  | ((with_reducible refine' n_ne ?ha ?hb ?_); (case ha => rfl); (case hb => rfl))
  | (with_reducible refine ⟨_, rfl, ?_⟩)
  | (with_reducible refine ⟨_, _, rfl, ?_⟩)
  | (with_reducible refine ⟨_, _, _, rfl, ?_⟩)
  | (with_reducible refine ⟨_, _, _, _, rfl, ?_⟩)
  | exact ⟨rfl, _, rfl, rfl⟩)
local macro_rules | `(tactic| walk_at "d") => `(tactic| (repeat (walk_at "d1")))
section
variable {P : Program} {w : World} {K : PySem.W.Frag} {mg : Str → Option Value} {base : Heap}
abbrev N__law_copied : List Str := ["_law_thing", "_law_part"]
theorem sc__law_copied : FnScope N__law_copied ["_law_thing"] (defScope s__law_copied) := ⟨rfl, rfl, rfl, by decide +kernel, rfl, by decide +kernel, by decide +kernel⟩
theorem ok__law_copied {k : Nat} {f : Addr} {fd : FuncData} (F : FnP K "_law_copied" "_law_copied" s__law_copied f fd) (T : Fx mg) {n : Nat} (c__law_copied : Cal P w K mg base k "_law_copied" ["_law_thing"] (sp__law_copied n)) : FnOk P w K mg base CX0 (k + 1) f fd ["_law_thing"] (sp__law_copied (n + 1)) := by
  refine F.ok sc__law_copied (spX_len fun _ => rfl) (fun cdv A outer s H vs Q E hr hsp => ?_)
  refine ⟨_, PSs.nox (pss_cons (ps_if (pt_val (pe_callB call_isi (by rfl) T.isinstance (by decide +kernel) (pa_cons (pv 0) (pa_cons (pe_bltn (v := .ty "list") (u := .type "list") (by rfl) T.list (by decide +kernel) rfl) pa_nil))))
    (pss_one (ps_ret (pe_lc (own := [("_law_part", 1)]) (g := gName 1) (by rfl) sc__law_copied.nd (pi_list (pv 0)) (blkOk_by (own := [("_law_part", 1)]) (N := N__law_copied) (sc := defScope s__law_copied) (by decide +kernel)) (fun _ _ _ _ _ => pg_name (i := 1) sc__law_copied.nd rfl (Or.inl rfl)) (fun _ _ _ _ _ => pts_nil) (fun _ _ _ _ _ => pe_cal c__law_copied hr (by rfl) (pa_cons (pv 1) pa_nil)))))
    pss_nil)
    (pss_cons (ps_if (pt_val (pe_callB call_isi (by rfl) T.isinstance (by decide +kernel) (pa_cons (pv 0) (pa_cons (pe_bltn (v := .ty "tuple") (u := .type "tuple") (by rfl) T.tuple (by decide +kernel) rfl) pa_nil))))
    (pss_one (ps_ret (pe_callTy call_tupOf (by rfl) T.tuple (by decide +kernel) (pa_cons (pe_lc (own := [("_law_part", 1)]) (g := gName 1) (by rfl) sc__law_copied.nd (pi_tup (pv 0)) (blkOk_by (own := [("_law_part", 1)]) (N := N__law_copied) (sc := defScope s__law_copied) (by decide +kernel)) (fun _ _ _ _ _ => pg_name (i := 1) sc__law_copied.nd rfl (Or.inl rfl)) (fun _ _ _ _ _ => pts_nil) (fun _ _ _ _ _ => pe_cal c__law_copied hr (by rfl) (pa_cons (pv 1) pa_nil))) pa_nil))))
    pss_nil)
    (pss_one (ps_ret (pv 0))))), ?_⟩
  refine run_spX (P := P) (w := w) hsp ?_
  rintro d S H hd
  dsimp only
  rcases hd with ⟨i, rfl⟩ | ⟨ds, rfl | rfl, hl, hx⟩
  · refine se_seq (se_if (et_val (ee_cb (ea_cons (ee_dat rfl (ea_cons (ee_ty (ea_nil (cb_isi (show ("int" : String) ≠ "" by decide) kit_il ⟨_, rfl, (fun z => nomatch z), fun _ => se_next ?_⟩)))))))))
    refine se_seq (se_if (et_val (ee_cb (ea_cons (ee_dat rfl (ea_cons (ee_ty (ea_nil (cb_isi (show ("int" : String) ≠ "" by decide) kit_it ⟨_, rfl, (fun z => nomatch z), fun _ => se_next ?_⟩)))))))))
    exact se_retD (ee_dat rfl ⟨_, rfl, rfl, _, rfl, rfl⟩)
  · refine se_seq (se_if (et_val (ee_cb (ea_cons (ee_dat rfl (ea_cons (ee_ty (ea_nil (cb_isi (show ("list" : String) ≠ "" by decide) kit_ll ⟨_, rfl, fun _ => ?_, (fun z => nomatch z)⟩)))))))))
    refine se_retD (ee_new (en_mapX ds id id (es_list (ee_dat rfl ⟨_, rfl, (List.map_id _).symm, rfl, sz1000 hl, fun x hm => ⟨_, gs_name, rfl, ?_⟩, ?_⟩))))
    · exact ee__law_copied (ea_cons (ee_dat rfl (ea_nil ⟨x, rfl, hx x hm, rfl, rfl, rfl⟩)))
    · exact ⟨_, rfl, rfl, _, rfl, congrArg PyData.list (List.map_id ds)⟩
  · refine se_seq (se_if (et_val (ee_cb (ea_cons (ee_dat rfl (ea_cons (ee_ty (ea_nil (cb_isi (show ("tuple" : String) ≠ "" by decide) kit_tl ⟨_, rfl, (fun z => nomatch z), fun _ => se_next ?_⟩)))))))))
    refine se_seq (se_if (et_val (ee_cb (ea_cons (ee_dat rfl (ea_cons (ee_ty (ea_nil (cb_isi (show ("tuple" : String) ≠ "" by decide) kit_tt ⟨_, rfl, fun _ => ?_, (fun z => nomatch z)⟩)))))))))
    refine se_retD (ee_cb (ea_cons (ee_new (en_mapX ds id id (es_tup (ee_dat rfl ⟨_, rfl, (List.map_id _).symm, rfl, sz1000 hl, fun x hm => ⟨_, gs_name, rfl, ?_⟩, ?_⟩))))))
    · exact ee__law_copied (ea_cons (ee_dat rfl (ea_nil ⟨x, rfl, hx x hm, rfl, rfl, rfl⟩)))
    · rw [List.map_id]
      exact ea_nil (cb_tuple (ds := ds) (.inl rfl) ⟨_, rfl, rfl, _, rfl, rfl⟩)

theorem cp_none {k : Nat} {f : Addr} {fd : FuncData} : FnOk P w K mg base CX0 k f fd ["_law_thing"] (sp__law_copied 0) := by
  refine ⟨fun vs H Q E h => ?_, fun A outer s H args us vs Q E hr he hb hv h => ?_⟩
  · obtain ⟨i, S, h1, h2, h3, h4⟩ := h
    exact (show False from h3).elim
  · obtain ⟨i, S, h1, h2, h3, h4⟩ := h
    exact (show False from h3).elim

end
end G
set_option Elab.async false
set_option linter.all false
set_option maxRecDepth 100000
set_option maxHeartbeats 4000000
set_option autoImplicit false
/-! enumerate over a tuple. -/
namespace EnumT
open PySem PySem.Spec PySem.Sem PyProof.Rows L2
theorem meets_new1 {v : Value} {o : Obj} {H : Heap → Prop} (B : Begins v o H) :
    Meets (Builtin.«enumerate.__new__» ⟨[.type "enumerate", v], []⟩) (fun _ R s => H s.heap ∧
      R (.ok (.ret (.ref (s.heap.push o).objs.size))) { s with heap := (s.heap.push o).push { cls := .type "enumerate", data := .fields #[.none, .bool false, .ref s.heap.objs.size, rawInt 0, .none, .none] } }) :=
  .of_wp fun prog w A R s h => by
    obtain ⟨hp, g, d, tk, os⟩ := s; obtain ⟨h1, h⟩ := h
    have hsub := sub_enumerate
    have q1 : ∀ {A' : Around} {E : Value → Shared → Prop} {Q : Value → Shared → Prop}, Q (.ref hp.objs.size) ⟨hp.push o, g, d, tk, os⟩ → wpAny (model prog w) A' (pyIter v) Q E ⟨hp, g, d, tk, os⟩ :=
      fun q => B.iter prog w _ _ ⟨hp, g, d, tk, os⟩ _ h1 q
    wp_walk using q1
    refine wpAny_stack_any fun st => wpAny_pure ?_
    split
    · rename_i c _ _ _ _ _
      cases (c == Value.type "enumerate")
      · wp_walk using q1
        exact ⟨_, rfl, h⟩
      · wp_walk using q1
        exact ⟨_, rfl, h⟩
    · wp_walk using q1
      exact ⟨_, rfl, h⟩
section
variable {prog : Program} {w : World} {A : Around} {E : Value → Shared → Prop} {s : Shared}
theorem call_enumerate_tuple {l : Addr} {items : Array Value} {Q : Value → Shared → Prop} (hL : s.heap.IsTuple l items)
    (h : ∀ h', IsEnum h' (s.heap.objs.size + 1) s.heap.objs.size 0 .none → h'.IsTupleIter s.heap.objs.size l 0 → h'.objs.size = s.heap.objs.size + 2 →
      (∀ b o, s.heap.get? b = some o → h'.get? b = some o) → Q (.ref (s.heap.objs.size + 1)) { s with heap := h' }) :
    wpAny (model prog w) A (call (.type "enumerate") [.ref l]) Q E s := by
  refine callType_new F.called_enumerate (by decide) (F.typeCall_enumerate_1 _) (F.newCall_enumerate_1 _) (fun obj => F.args_object_init_2 obj _) F.entry_enumerate_new
    (meets_new1 (begins_tuple l items)) ⟨hL, ?_⟩
  have hz : (s.heap.push { cls := .type "tuple_iterator", data := .fields #[.ref l, .int 0 0] }).objs.size = s.heap.objs.size + 1 := Heap.size_push ..
  show _ ∧ _
  rw [hz]
  have he : IsEnum ((s.heap.push { cls := .type "tuple_iterator", data := .fields #[.ref l, .int 0 0] }).push
      { cls := .type "enumerate", data := .fields #[.none, .bool false, .ref s.heap.objs.size, rawInt 0, .none, .none] }) (s.heap.objs.size + 1) s.heap.objs.size 0 .none := by
    have := Heap.get?_push_size (s.heap.push { cls := .type "tuple_iterator", data := .fields #[.ref l, .int 0 0] })
      (o := { cls := .type "enumerate", data := .fields #[.none, .bool false, .ref s.heap.objs.size, rawInt 0, .none, .none] }) rfl
    rw [hz] at this; exact this
  refine ⟨⟨_, he, rfl⟩, h _ he ⟨_, Heap.get?_push_of_some _ (Heap.get?_push_size _ rfl), rfl, rfl⟩ (by rw [Heap.size_push, hz]) fun b o x => Heap.get?_push_of_some _ (Heap.get?_push_of_some _ x)⟩
end
end EnumT
set_option Elab.async false
set_option linter.all false
set_option maxRecDepth 100000
set_option maxHeartbeats 4000000
set_option autoImplicit false
namespace EnumT
open PySem PySem.Spec PySem.Sem PyProof.Rows L2
/-- the tuple at a as it stands at each turn, each item in a new pair -/
def IteT (K : PySem.W.Frag) (a : Addr) : It :=
  ⟨fun i H => ∃ (xs : List V) (x : V), SqT K H a xs ∧ xs[i]? = some x, fun i H v H' => ∃ T x, v = .ref T ∧ H T = none ∧ H' = upd H T (.tup [.int (i : Nat), x]) ∧ ∀ xs, SqT K H a xs → xs[i]? = some x, fun i H => ∃ xs : List V, SqT K H a xs ∧ xs.length = i⟩
theorem turn_enumT {P : Program} {w : World} {K : PySem.W.Frag} {elts : List Expr} {kk : Nat} {tpos : Pos} (a e it : Addr) :
    Turn P w K (.Tuple elts kk tpos) (IteT K a) [e, it] e (fun i h => (∃ old, IsEnum h e it ((i : Nat) : Int) old) ∧ h.IsTupleIter it a i ∧ e ≠ it ∧ a ≠ it ∧ a ≠ e) where
  mem := by simp
  obj := fun i h st b hb => by
    obtain ⟨⟨old, he⟩, ⟨o, ho, hc, hd⟩, _⟩ := st
    have e' : b = e ∨ b = it := by simpa using hb
    rcases e' with z | z
    · rw [z]; exact ⟨_, he, fun v q => nomatch q⟩
    · rw [z]; exact ⟨o, ho, fun v q => by rw [hd] at q; cases q⟩
  keep := fun i h h' st k => let ⟨⟨old, he⟩, hi, hne⟩ := st; ⟨⟨old, k e (by simp) _ he⟩, hi.at fun o q => k it (by simp) o q, hne⟩
  item := by
    intro X hP hw hK hc i pins s σ H E I hf st hg
    subst hP hw hK
    obtain ⟨⟨old, he⟩, hit, hne, h1, h2⟩ := st
    obtain ⟨xs, x, hq, hx⟩ := hg
    obtain ⟨its, rv, p, hz⟩ := I.tuple hq
    obtain ⟨u, hu, ru⟩ := rv.get hx
    have hel : e < s.heap.objs.size := Heap.lt_size he
    have hil : it < s.heap.objs.size := by obtain ⟨_, q, _⟩ := hit; exact Heap.lt_size q
    have hlt : i < its.toArray.size := by simpa using (List.getElem?_eq_some_iff.mp hu).1
    refine wpAny_pyNext_enum_itemD (Draws.tuple (A := X.A.in1) (I.ok.hd hc) it a h1 its.toArray) he ⟨hit, p⟩ hlt hne (by simp [hne, Ne.symm h2]) fun u' h' tk hP ho st' hT hsz hk => ?_
    have hu' : u' = u := by
      have : its.toArray[i]? = some u' := hP
      rw [List.getElem?_toArray, hu] at this
      exact (Option.some.inj this).symm
    subst hu'
    refine ⟨_, rfl, wpAny_letOwnedTupleGo_enum (s := { s with heap := h', toks := tk + 1 }) ho fun h'' he' sb => ?_⟩
    have hT2 : h''.get? s.heap.objs.size = some { cls := .type "tuple", data := .seq #[.int i tk, u'] } := (sb.2 _ (Nat.ne_of_gt hel)).trans hT
    have new : ObjOk X.prog X.w (upd H s.heap.objs.size (.tup [.int (i : Nat), x])) h'' s.heap.objs.size (.tup [.int (i : Nat), x]) :=
      ⟨by show 2 ≤ sizeLine; decide, [.int i tk, u'], .cons ⟨_, rfl⟩ (.cons ru .nil), ⟨_, hT2, rfl, _, rfl⟩⟩
    have I1 : Inv X pins σ (upd H s.heap.objs.size (.tup [.int (i : Nat), x])) { s with heap := h'', toks := tk + 1 } :=
      I.turnedNew (ch := [e, it]) (fun b ob hb q => (sb.2 b (fun z => hb (by simp [z]))).trans (hk b ob (fun z => hb (by simp [z])) (fun z => hb (by simp [z])) q)) hf (Nat.le_refl _) new
    refine ⟨.ref s.heap.objs.size, _, I1, rfl, ⟨_, x, rfl, I.hok.fresh (Nat.le_refl _), rfl, fun ys hy => by rw [I.tuple_inj hy hq]; exact hx⟩, ⟨⟨u', ?_⟩, st'.1.at fun o q => (sb.2 it (Ne.symm hne)).trans q, hne, h1, h2⟩, fun b hb => ?_⟩
    · have e1 : ((i + 1 : Nat) : Int) = (i : Int) + 1 := by omega
      rw [e1]; exact he'
    · have hb' : b < s.heap.objs.size := by
        have e' : b = e ∨ b = it := by simpa using hb
        rcases e' with z | z
        · rw [z]; exact hel
        · rw [z]; exact hil
      rw [upd_ne (Nat.ne_of_lt hb')]
      exact (hf b hb).1
  done := by
    intro X hP hw hK hc i pins s σ H E I hf st hg
    subst hP hw hK
    obtain ⟨⟨old, he⟩, hit, hne, h1, h2⟩ := st
    obtain ⟨xs, hq, hx⟩ := hg
    obtain ⟨its, rv, p, hz⟩ := I.tuple hq
    obtain ⟨f0, f1, f2, f3, f4, f5⟩ := hf it (by simp)
    have hl := rv.length
    have hs : its.toArray.size = i := by simp; omega
    exact wpAny_pyNext_enum_endD (Draws.tuple (A := X.A.in1) (I.ok.hd hc) it a h1 its.toArray) he (by rw [hs]; exact ⟨hit, p⟩) fun h' eb => ⟨rfl, I.turned (t' := s.toks) (fun b o hb q => eb b o hb q) f0 f1 f3 f4 f5⟩
  self := fun A i s Q E st h => let ⟨⟨_, he⟩, _⟩ := st; wpAny_pyIter_enum he h
def iEnumT (K : PySem.W.Frag) (ta : TA) : TI := fun σ H R => ta σ H fun vs H1 => ∃ a xs, vs = [.ref a] ∧ SqT K H1 a xs ∧ R (IteT K a) H1
theorem pi_enumT {X : Cx} {e : Expr} {ta : TA} {p pos tpos : Pos} {elts : List Expr} {kk : Nat} (hg : Gl X "enumerate") (hm : X.mg "enumerate" = none) (ha : PA X [e] ta) (hs : starEach [e] X.env = [(false, eval e X.env)] := by rfl) :
    PI X (.Tuple elts kk tpos) (.Call (.Name "enumerate" p) [e] [] pos) (iEnumT X.K ta) := by
  refine ⟨fun pins s σ H R I h => ?_⟩
  refine Call_ (ld_blt I hg hm boot_enumerate (PyProof.Rows.callWith_type1 (thn (ha.run pos pins s σ H _ I h) fun us s1 ⟨vs, H1, I1, r1, q1⟩ => ?_) hs rfl))
  obtain ⟨a, xs, ex, hq, q⟩ := q1
  subst ex
  cases r1 with
  | cons r rr =>
    cases rr
    cases r
    obtain ⟨its, rv, p', hz⟩ := I1.tuple hq
    have hal : a < s1.heap.objs.size := by obtain ⟨_, q, _⟩ := p'; exact Heap.lt_size q
    refine call_enumerate_tuple p' fun h' he hit hsz hk => wpAny_pyIter_enum he ?_
    have I2 : Inv X pins σ H1 { s1 with heap := h' } := I1.kept (t' := s1.toks) hk
    refine ⟨s1.heap.objs.size + 1, [s1.heap.objs.size + 1, s1.heap.objs.size], _, _, H1, rfl, I2, turn_enumT a (s1.heap.objs.size + 1) s1.heap.objs.size, ⟨⟨.none, he⟩, hit, Nat.succ_ne_self _, Nat.ne_of_lt hal, Nat.ne_of_lt (Nat.lt_succ_of_lt hal)⟩, fun b hb => ?_, q⟩
    have e' : b = s1.heap.objs.size + 1 ∨ b = s1.heap.objs.size := by simpa using hb
    have hle : s1.heap.objs.size ≤ b := by
      rcases e' with z | z
      · rw [z]; exact Nat.le_add_right _ _
      · rw [z]; exact Nat.le_refl _
    exact I1.fpOk hle (I1.hok.fresh hle)
end EnumT
set_option Elab.async false
set_option linter.all false
set_option maxRecDepth 100000
set_option maxHeartbeats 4000000
set_option autoImplicit false
namespace D
open PySem PySem.Spec PyProof.Rows L2 EnumT
section
variable {P : Program} {w : World} {K : PySem.W.Frag} {S : Hp}
theorem walkD_enumT {a : Addr} {xs : List V} {ds : List PyData} (h : S a = some (.tup xs)) (hd : DqAll S xs ds) : WalkD P w (IteT K a) (enumD ds) S where
  go := fun Ω δ σ S1 H1 g e i hi => by
    rw [enumD_len] at hi
    have q : SqT K H1 a xs := SqT.of (g.sub _ _ (e _ _ h))
    have hl := hd.length
    refine ⟨⟨xs, xs[i]'(by omega), q, List.getElem?_eq_getElem (by omega)⟩, fun x H2 y => ?_⟩
    obtain ⟨T, u, rfl, hT, rfl, hu⟩ := y
    obtain ⟨d, h1, h2⟩ := hd.get' (hu xs q)
    exact ⟨_, _, g.new hT, Step.new g.sub hT, enumD_get h1, .tup upd_same (.cons (.int _) (.cons ((h2.mono e).mono (Same.new (g.sub.free hT))) .nil))⟩
  stop := fun Ω δ σ S1 H1 g e => by
    have q : SqT K H1 a xs := SqT.of (g.sub _ _ (e _ _ h))
    rw [enumD_len, ← hd.length]
    exact ⟨xs, q, rfl⟩
variable {Ω : Wd} {δ : List AS} {RS : List PyData → Wd → List AS → Prop}
theorem es_enumT {ta : TA} (h : EA P w ta Ω δ fun rs Ω1 δ1 => ∃ ds, rs = [.dat (.tuple ds)] ∧ RS (enumD ds) Ω1 δ1) : ES P w (iEnumT K ta) Ω δ RS := fun σ S H g Q q =>
  h σ S H g _ fun vs r1 Ω1 δ1 S1 H1 h1 g1 s1 o1 => by
    obtain ⟨ds, rfl, h1⟩ := h1
    obtain ⟨v, rfl, o⟩ := one_of o1
    obtain ⟨a, xs, rfl, k1, k2⟩ := Dq.tup_inv o
    exact ⟨a, xs, rfl, SqT.of (g1.sub _ _ k1), q _ _ _ _ _ _ h1 g1 s1 (walkD_enumT k1 k2)⟩
end
end D
set_option Elab.async false
set_option linter.all false
set_option maxRecDepth 100000
set_option maxHeartbeats 4000000
set_option autoImplicit false
namespace G
open PySem PySem.Spec PyProof.Rows L2 D M EnumT
local macro_rules | `(tactic| walk_at "d1") => `(tactic| first
  | (with_reducible refine se_seq ?_)
  | (with_reducible refine se_next ?_)
  | (with_reducible refine se_set ?_)
  | (with_reducible refine se_retD ?_)
  | (with_reducible refine se_if ?_)
  | (with_reducible refine ee_lit ?_)
  | (with_reducible refine ee_int ?_)
  | (with_reducible refine ee_str ?_)
  | (with_reducible refine ee_bl ?_)
  | (with_reducible refine ee_non ?_)
  | (with_reducible refine ee_op ?_)
  | (with_reducible refine ee_tup ?_)
  | (with_reducible refine ee_cb ?_)
  | (with_reducible refine et_test ?_)
  | (with_reducible refine ea_nil ?_)
  | (with_reducible refine ea_cons ?_)
  | ((with_reducible refine' ee_dat ?e ?_); (case e => rfl))
  | ((with_reducible refine' ee_own ?e ?_); (case e => rfl))
  | ((with_reducible refine' ee_raw ?e ?_); (case e => rfl))
  | ((with_reducible refine' n_and ?ha ?hb ?_); (case ha => rfl); (case hb => rfl))
  | ((with_reducible refine' n_or ?ha ?hb ?_); (case ha => rfl); (case hb => rfl))
  | ((with_reducible refine' n_xor ?ha ?hb ?_); (case ha => rfl); (case hb => rfl))
  | ((with_reducible refine' n_add ?ha ?hb ?_); (case ha => rfl); (case hb => rfl))
  | ((with_reducible refine' n_sub ?ha ?hb ?hc ?_); (case ha => rfl); (case hb => rfl); (case hc => first | omega | assumption | decide))
  | ((with_reducible refine' n_mul ?ha ?hb ?hc ?_); (case ha => rfl); (case hb => rfl); (case hc => first | omega | assumption | decide))
  | ((with_reducible refine' n_shr ?ha ?hb ?_); (case ha => rfl); (case hb => rfl))
  | ((with_reducible refine' n_shl ?ha ?hb ?hc ?hd ?_); (case ha => rfl); (case hb => rfl); (case hc => first | omega | assumption | decide); (case hd => first | omega | assumption | decide))
  | ((with_reducible refine' n_lt ?ha ?hb ?_); (case ha => rfl); (case hb => rfl))
  | ((with_reducible refine' n_gt ?ha ?hb ?_); (case ha => rfl); (case hb => rfl))
  | ((with_reducible refine' n_eq ?ha ?hb ?_); (case ha => rfl); (case hb => rfl))
  | ((with_reducible refine' n_ne ?ha ?hb ?_); (case ha => rfl); (case hb => rfl))
  | (with_reducible refine ⟨_, rfl, ?_⟩)
  | (with_reducible refine ⟨_, _, rfl, ?_⟩)
  | (with_reducible refine ⟨_, _, _, rfl, ?_⟩)
  | (with_reducible refine ⟨_, _, _, _, rfl, ?_⟩)
  | exact ⟨rfl, _, rfl, rfl⟩)
local macro_rules | `(tactic| walk_at "d") => `(tactic| (repeat (walk_at "d1")))
section
variable {P : Program} {w : World} {K : PySem.W.Frag} {mg : Str → Option Value} {base : Heap}
theorem three_at {k : Nat} (h : k < 3) : ([nI 1, nI 2, nI 4] : List PyData)[k]? = some (nI (([1, 2, 4] : List Nat).getD k 0)) := by
  match k, h with
  | 0, _ => rfl
  | 1, _ => rfl
  | 2, _ => rfl
theorem sz1000' {n : Nat} (h : n ≤ 5000) : n < sizeLine := Nat.lt_of_le_of_lt h (by decide)

abbrev N__law_values : List Str := ["_law_circuit_here", "_law_state_here", "_law_ins", "_law_found", "_law_table", "_law_places", "_law_row", "_law_k", "_law_place"]
theorem sc__law_values : FnScope N__law_values ["_law_circuit_here", "_law_state_here", "_law_ins"] (defScope s__law_values) := ⟨rfl, rfl, rfl, by decide +kernel, rfl, by decide +kernel, by decide +kernel⟩
theorem ok__law_values {k : Nat} {f : Addr} {fd : FuncData} (F : FnP K "_law_values" "_law_values" s__law_values f fd) (T : Fx mg) : FnOk P w K mg base CX0 (k + 1) f fd ["_law_circuit_here", "_law_state_here", "_law_ins"] sp__law_values := by
  refine F.ok sc__law_values (spX_len fun _ => rfl) (fun cdv A outer s H vs Q E hr hsp => ?_)
  refine ⟨_, PSs.nox (pss_cons (ps_set (i := 3) sc__law_values.nd rfl (Or.inl rfl) (pe_op op_cat (pe_callTy call_listOf (by rfl) T.list (by decide +kernel) (pa_cons (pv 2) pa_nil)) (pe_callTy call_listOf (by rfl) T.list (by decide +kernel) (pa_cons (pv 1) pa_nil))))
    (pss_cons (ps_for PassesOwn.never rfl (pi_list (pe_ix ix_tup (pv 0) pe_int (fun _ _ => rfl))) (pg_tup rfl (pgs_cons (pg_name (i := 4) sc__law_values.nd rfl (Or.inl rfl)) (pgs_cons (pg_name (i := 5) sc__law_values.nd rfl (Or.inl rfl)) pgs_nil)))
    (pss_cons (ps_set (i := 6) sc__law_values.nd rfl (Or.inl rfl) pe_int)
    (pss_cons (ps_for PassesOwn.never rfl (pi_enumT (by rfl) T.enumerate (pa_cons (pv 5) pa_nil)) (pg_tup rfl (pgs_cons (pg_name (i := 7) sc__law_values.nd rfl (Or.inl rfl)) (pgs_cons (pg_name (i := 8) sc__law_values.nd rfl (Or.inl rfl)) pgs_nil)))
    (pss_one (ps_set (i := 6) sc__law_values.nd rfl (Or.inl rfl) (pe_op op_add (pv 6) (pe_op op_mul (pe_ix ix_list (pv 3) (pv 8) (fun _ _ => rfl)) (pe_ix ix_list (pe_lst (pa_cons pe_int (pa_cons pe_int (pa_cons pe_int pa_nil)))) (pv 7) (fun _ _ => rfl)))))))
    (pss_one (ps_expr (pe_bm PySem.F.plainAttrs_list PySem.F.slot_list_append PySem.F.type_list_append mt_append (pv 3) (pa_cons (pe_op op_and (pe_op op_shr (pv 4) (pv 6)) pe_int) pa_nil)))))))
    (pss_one (ps_ret (pv 3))))), ?_⟩
  refine run_spX (P := P) (w := w) hsp ?_
  rintro ⟨c, st, ins⟩ S H ht
  have ht : RunOk c st ins := ht
  dsimp only
  have hv := ht.vok
  have hi := hv.ins
  have hm := hv.mems
  have hg := hv.gates
  have hil := ht.insl
  have hsl := ht.stl
  refine se_seq (se_setN (en_cat (ee_new (en_cb (ea_cons (ee_dat rfl (ea_nil (cn_list (.inl rfl) (ee_new (en_cb (ea_cons (ee_dat rfl (ea_nil (cn_list (.inr rfl) ⟨ins.map nI, st.map nI, rfl, rfl, ?_, (by show (3 : Nat) < 9; decide), ?_⟩))))))))))))))
  · rw [List.length_map, List.length_map]
    exact Nat.le_trans (show ins.length + st.length ≤ 2000 by omega) (by decide)
  rw [← List.map_append]
  refine se_seq (se_forX c.gates enG (fun r Ω' δ' => Ω' = Wd.frm S H ∧ ∃ f a4 a5 a6 a7 a8, f.length + r.length = c.first + c.gates.length ∧ (∀ b ∈ f, b < 2) ∧ r.foldl (fun f g => f ++ [gateV f g]) f = valsN c st ins ∧ δ' = [.dat (enC c), .dat (nT st), .dat (nL ins), .own (f.map nI), a4, a5, a6, a7, a8]) (es_list (ee_op (ee_dat rfl (ee_lit (n_ixT (b := 2) rfl rfl ⟨_, rfl, rfl, ⟨rfl, ins ++ st, .un, .un, .un, .un, .un, ?_, ?_, rfl, rfl⟩, ?_, ?_⟩))))))
  · rw [List.length_append, hil, hsl]
    rfl
  · intro b hb
    rcases List.mem_append.mp hb with hb | hb
    · exact ht.ib b hb
    · exact ht.sb b hb
  · rintro pre ⟨t, ps⟩ r Ω' δ' hx ⟨rfl, f, a4, a5, a6, a7, a8, hfl, hfb, hfe, rfl⟩
    rw [List.length_cons] at hfl
    have hgl : c.gates.length = pre.length + (r.length + 1) := by rw [hx, List.length_append, List.length_cons]
    obtain ⟨hg1, hg3⟩ := hv.gate pre.length (t, ps) (by rw [hx, List.getElem?_append_right (Nat.le_refl _), Nat.sub_self]; rfl)
    have hg1 : ps.length ≤ 3 := hg1
    have hg3 : ∀ p ∈ ps, p < c.first + pre.length := hg3
    have hF : c.first ≤ 2000 := by show c.ins + c.mems.length ≤ 2000; omega
    refine ⟨_, gs_tup2, ?_⟩
    refine se_seq (se_set (ee_lit ⟨_, rfl, ?_⟩))
    refine se_seq (se_forX ps.zipIdx (fun q => .tuple [nI q.2, nI q.1]) (fun r' Ω' δ' => Ω' = Wd.frm S H ∧ ∃ s a7 a8, r'.foldl (fun s q => s + f.getD q.1 0 * ([1, 2, 4] : List Nat).getD q.2 0) s = rowN f ps ∧ s + 8 * r'.length ≤ 24 ∧ δ' = [.dat (enC c), .dat (nT st), .dat (nL ins), .own (f.map nI), .dat (nI t), .dat (nT ps), .dat (nI s), a7, a8]) (es_enumT (ea_cons (ee_dat rfl (ea_nil ⟨_, rfl, enumD_map nI ps, ⟨rfl, 0, a7, a8, rfl, by rw [List.length_zipIdx]; omega, rfl⟩, ?_, ?_⟩)))))
    · rintro pre2 ⟨p, j⟩ r2 Ω' δ' hx2 ⟨rfl, s, b7, b8, hs, hsz, rfl⟩
      have hm2 : (p, j) ∈ ps.zipIdx := by rw [hx2]; simp
      obtain ⟨-, h2, h3⟩ := List.mem_zipIdx hm2
      simp at h2 h3
      have hp : p ∈ ps := by rw [h3]; exact List.getElem_mem _
      have hpl := hg3 p hp
      have hpf : p < f.length := by omega
      have hb2 : f.getD p 0 < 2 := hfb _ (List.mem_of_getElem? (getD_of hpf))
      have hw : ([1, 2, 4] : List Nat).getD j 0 ≤ 4 := by
        match j, (show j < 3 by omega) with
        | 0, _ => decide
        | 1, _ => decide
        | 2, _ => decide
      have hprod : f.getD p 0 * ([1, 2, 4] : List Nat).getD j 0 ≤ 1 * 4 := Nat.mul_le_mul (by omega) hw
      refine ⟨_, gs_tup2, ?_⟩
      rw [List.length_cons] at hsz
      refine se_set (ee_op (ee_dat rfl (ee_op (ee_op (ee_own rfl (ee_dat rfl (o2_ixO (ds := f.map nI) rfl rfl (map_nI hpf) (ee_op (ee_new (en_lst (ea_cons (ee_lit (ea_cons (ee_lit (ea_cons (ee_lit (ea_nil ⟨[_, _, _], rfl, (by show 3 ≤ sizeLine; decide), ee_dat rfl (n_ixL rfl (three_at (by omega)) (n_mul rfl rfl (Nat.lt_of_lt_of_le hb2 (by decide)) (n_add rfl rfl ⟨_, rfl, rfl, _, _, _, hs, (by show s + f.getD p 0 * ([1, 2, 4] : List Nat).getD j 0 + 8 * r2.length ≤ 24; omega), rfl⟩)))⟩)))))))))))))))))
    rintro Ω' δ' ⟨rfl, s, b7, b8, hs, hsz, rfl⟩
    have hs : s = rowN f ps := hs
    refine se_append (i := 3) rfl (ee_op (ee_op (ee_dat rfl (ee_dat rfl (n_shr rfl rfl (ee_lit (n_and rfl rfl ⟨_, f.map nI, rfl, rfl, sz1000' (by rw [List.length_map]; omega), rfl, f ++ [gateV f (t, ps)], .dat (nI t), .dat (nT ps), .dat (nI s), b7, b8, ?_, ?_, hfe, ?_⟩)))))))
    · rw [List.length_append, List.length_singleton]
      omega
    · intro b hb
      rcases List.mem_append.mp hb with hb | hb
      · exact hfb b hb
      · rw [List.mem_singleton.mp hb]
        exact Nat.lt_of_le_of_lt Nat.and_le_right (by decide)
    · rw [List.map_append, hs]
      rfl
  rintro Ω' δ' ⟨rfl, f, a4, a5, a6, a7, a8, hfl, hfb, hfe, rfl⟩
  have hfe : f = valsN c st ins := hfe
  rw [← hfe]
  exact se_freeze (i := 3) rfl (se_retD (ee_dat rfl ⟨_, rfl, rfl, _, rfl, rfl⟩))

end
end G
set_option autoImplicit false
set_option linter.all false
/-! The tables' meaning: what each step on a table keeps. -/
namespace M
theorem numN_cons (b : Nat) (bs : List Nat) : numN (b :: bs) = 2 * numN bs + b := rfl
theorem num_bit : ∀ {bs : List Nat}, (∀ b ∈ bs, b < 2) → ∀ i, (numN bs).testBit i = decide (bs.getD i 0 = 1)
  | [], _, i => by simp [numN]
  | b :: bs, h, i => by
    have hb := h b List.mem_cons_self
    rw [numN_cons]
    cases i with
    | zero =>
      rw [Nat.testBit_zero]
      show decide ((2 * numN bs + b) % 2 = 1) = decide (b = 1)
      congr 1
      apply propext
      omega
    | succ i =>
      rw [Nat.testBit_succ, show (2 * numN bs + b) / 2 = numN bs by omega, num_bit (fun x hx => h x (List.mem_cons_of_mem _ hx)) i]
      rfl
theorem bit_one {b : Nat} (hb : b < 2) (i : Nat) : b.testBit i = (decide (i = 0) && decide (b = 1)) := by
  have := num_bit (bs := [b]) (fun x hx => by rw [List.mem_singleton.mp hx]; exact hb) i
  rw [show numN [b] = b by simp [numN]] at this
  rw [this]
  cases i with
  | zero => simp
  | succ i => simp
theorem getD_app1 {a r : List Nat} {i : Nat} (h : i < a.length) : (a ++ r).getD i 0 = a.getD i 0 := by
  rw [List.getD_eq_getElem?_getD, List.getD_eq_getElem?_getD, List.getElem?_append_left h]
theorem getD_app2 {a r : List Nat} {i : Nat} (h : a.length ≤ i) : (a ++ r).getD i 0 = r.getD (i - a.length) 0 := by
  rw [List.getD_eq_getElem?_getD, List.getD_eq_getElem?_getD, List.getElem?_append_right h]
theorem wid_num {a r : List Nat} {b : Nat} (ha : ∀ x ∈ a, x < 2) (hb : b < 2) (hr : ∀ x ∈ r, x < 2) : widN (numN (a ++ r)) a.length b = numN (a ++ b :: r) := by
  have h1 : ∀ x ∈ a ++ r, x < 2 := fun x hx => (List.mem_append.mp hx).elim (ha x) (hr x)
  have h2 : ∀ x ∈ a ++ b :: r, x < 2 := fun x hx => (List.mem_append.mp hx).elim (ha x) fun hx => (List.mem_cons.mp hx).elim (fun e => by rw [e]; exact hb) (hr x)
  refine Nat.eq_of_testBit_eq fun i => ?_
  unfold widN
  rw [Nat.testBit_or, Nat.testBit_or, Nat.testBit_and, shl1, Nat.testBit_two_pow_sub_one, Nat.testBit_shiftLeft, Nat.testBit_shiftLeft, Nat.testBit_shiftRight, num_bit h1, num_bit h1, num_bit h2, bit_one hb]
  by_cases c1 : i < a.length
  · rw [getD_app1 c1, getD_app1 c1]
    simp [c1, show ¬ a.length ≤ i by omega, show ¬ a.length + 1 ≤ i by omega]
  · by_cases c2 : i = a.length
    · subst c2
      rw [getD_app2 (r := b :: r) (Nat.le_refl _)]
      simp
      intro h
      omega
    · rw [getD_app2 (r := b :: r) (i := i) (by omega), getD_app2 (r := r) (i := i) (by omega), getD_app2 (r := r) (i := a.length + (i - (a.length + 1))) (by omega), show i - a.length = (i - (a.length + 1)) + 1 by omega]
      simp [c1, show a.length ≤ i by omega, show a.length + 1 ≤ i by omega, show ¬ i - a.length = 0 by omega, show a.length + (i - (a.length + 1)) - a.length = i - (a.length + 1) by omega]
theorem turn_num {a r : List Nat} {b : Nat} (ha : ∀ x ∈ a, x < 2) (hb : b < 2) (hr : ∀ x ∈ r, x < 2) : turnN (numN (a ++ b :: r)) a.length = numN (a ++ (1 - b) :: r) := by
  have h2 : ∀ b, b < 2 → ∀ x ∈ a ++ b :: r, x < 2 := fun b hb x hx => (List.mem_append.mp hx).elim (ha x) fun hx => (List.mem_cons.mp hx).elim (fun e => by rw [e]; exact hb) (hr x)
  refine Nat.eq_of_testBit_eq fun i => ?_
  unfold turnN
  rw [Nat.testBit_xor, Nat.testBit_shiftLeft, num_bit (h2 b hb), num_bit (h2 (1 - b) (by omega)), bit_one (by omega)]
  by_cases c1 : i < a.length
  · rw [getD_app1 c1, getD_app1 c1]
    simp [show ¬ a.length ≤ i by omega]
  · rw [getD_app2 (by omega), getD_app2 (by omega)]
    by_cases c2 : i = a.length
    · subst c2
      simp
      rcases (show b = 0 ∨ b = 1 by omega) with rfl | rfl <;> simp
    · obtain ⟨j, hj⟩ : ∃ j, i - a.length = j + 1 := ⟨i - a.length - 1, by omega⟩
      rw [hj]
      simp
end M
set_option autoImplicit false
set_option linter.all false
/-! fixN, flipN, joinN, hangsN, ordN at a row. -/
namespace M
def Bits (l : List Nat) : Prop := ∀ x ∈ l, x < 2
theorem Bits.app {a b : List Nat} (ha : Bits a) (hb : Bits b) : Bits (a ++ b) := fun x hx => (List.mem_append.mp hx).elim (ha x) (hb x)
theorem Bits.cons {b : Nat} {l : List Nat} (hb : b < 2) (h : Bits l) : Bits (b :: l) := fun x hx => (List.mem_cons.mp hx).elim (fun e => by rw [e]; exact hb) (h x)
theorem Bits.lt {l : List Nat} (h : Bits l) : numN l < 2 ^ l.length := numN_lt fun b hb => Nat.le_of_lt_succ (h b hb)
theorem fig_fix {t b : Nat} {a r : List Nat} (ha : Bits a) (hb : b < 2) (hr : Bits r) : figN (fixN t (a.length + r.length + 1) a.length b) (numN (a ++ r)) = figN t (numN (a ++ b :: r)) := by
  unfold fixN
  rw [Nat.add_sub_cancel, fig_num (fun _ => figN_le _ _) (by have := (ha.app hr).lt; rwa [List.length_append] at this), wid_num ha hb hr]
theorem fig_flip {t b : Nat} {a r : List Nat} (ha : Bits a) (hb : b < 2) (hr : Bits r) : figN (flipN t (a.length + r.length + 1) a.length) (numN (a ++ b :: r)) = figN t (numN (a ++ (1 - b) :: r)) := by
  unfold flipN
  rw [fig_num (fun _ => figN_le _ _) (by have := (ha.app (hr.cons hb)).lt; rwa [List.length_append, List.length_cons, ← Nat.add_assoc] at this), turn_num ha hb hr]
theorem bit_at {l : List Nat} (h : Bits l) (k : Nat) : numN l >>> k &&& 1 = l.getD k 0 := by
  rw [Nat.and_one_is_mod]
  have := num_bit h k
  rw [Nat.testBit, Nat.one_and_eq_mod_two] at this
  have hk : l.getD k 0 < 2 := by
    rw [List.getD_eq_getElem?_getD]
    by_cases hk : k < l.length
    · rw [List.getElem?_eq_getElem hk]; exact h _ (List.getElem_mem hk)
    · rw [List.getElem?_eq_none (by omega)]; decide
  have h2 : numN l >>> k % 2 = 0 ∨ numN l >>> k % 2 = 1 := by omega
  rcases h2 with e | e
  · rw [e] at this ⊢
    simp at this
    rw [List.getD_eq_getElem?_getD] at hk ⊢
    omega
  · rw [e] at this ⊢
    simp at this
    rw [List.getD_eq_getElem?_getD]
    exact this.symm
theorem fig_join {t k : Nat} {a r : List Nat} (ha : Bits a) (hr : Bits r) (hk : k < a.length) : figN (joinN t (a.length + r.length + 1) k a.length) (numN (a ++ r)) = figN t (numN (a ++ a.getD k 0 :: r)) := by
  unfold joinN
  rw [Nat.add_sub_cancel, fig_num (fun _ => figN_le _ _) (by have := (ha.app hr).lt; rwa [List.length_append] at this), bit_at (ha.app hr), getD_app1 hk, wid_num ha ?_ hr]
  rw [List.getD_eq_getElem?_getD, List.getElem?_eq_getElem hk]
  exact ha _ (List.getElem_mem hk)
theorem not_hang {t b c : Nat} {a r : List Nat} (ha : Bits a) (hb : b < 2) (hc : c < 2) (hr : Bits r) (h : hangsN t (a.length + r.length + 1) a.length = false) : figN t (numN (a ++ b :: r)) = figN t (numN (a ++ c :: r)) := by
  have h2 : ∀ b, b < 2 → figN t (numN (a ++ b :: r)) = figN t (numN (a ++ (1 - b) :: r)) := fun b hb => by
    unfold hangsN at h
    rw [List.any_eq_false] at h
    have hl := (ha.app (hr.cons hb)).lt
    rw [List.length_append, List.length_cons, ← Nat.add_assoc] at hl
    have := h (numN (a ++ b :: r)) (List.mem_range.mpr (by rw [shl1]; exact hl))
    rw [turn_num ha hb hr] at this
    simpa using this
  rcases (show b = 0 ∨ b = 1 by omega) with rfl | rfl <;> rcases (show c = 0 ∨ c = 1 by omega) with rfl | rfl
  · rfl
  · exact h2 0 hb
  · exact h2 1 hb
  · rfl
end M
set_option autoImplicit false
set_option linter.all false
/-! What each step on a gate's table keeps: its figure at the places' bits. -/
namespace M
def tellS (v : Nat → Nat) : Sn → Nat
  | .bit b => b
  | .pl p => v p
theorem bits_map {v : Nat → Nat} (hv : ∀ p, v p < 2) (ps : List Nat) : Bits (ps.map v) := fun x hx => by
  obtain ⟨p, _, rfl⟩ := List.mem_map.mp hx
  exact hv p
theorem bits_tell {v : Nat → Nat} (hv : ∀ p, v p < 2) {ss : List Sn} (hs : ∀ b, Sn.bit b ∈ ss → b < 2) : Bits (ss.map (tellS v)) := fun x hx => by
  obtain ⟨s, hm, rfl⟩ := List.mem_map.mp hx
  cases s with
  | bit b => exact hs b hm
  | pl p => exact hv p
/-- a gate read by the senses -/
theorem rt_keeps {Z : Sens} {v : Nat → Nat} (hv : ∀ p, v p < 2) (hn : ∀ p, Z.isNot p = true → v p = 1 - v (Z.under p)) : ∀ (ss : List Sn) (t m : Nat) (ps : List Nat), (∀ b, Sn.bit b ∈ ss → b < 2) → m = ps.length + ss.length → figN (rtN Z ss t m ps).1 (numN ((rtN Z ss t m ps).2.map v)) = figN t (numN (ps.map v ++ ss.map (tellS v)))
  | [], t, m, ps, _, _ => by rw [rtN, List.map_nil, List.append_nil]
  | .bit b :: r, t, m, ps, hs, hm => by
    rw [List.length_cons] at hm
    have hr : ∀ b, Sn.bit b ∈ r → b < 2 := fun b hb => hs b (List.mem_cons_of_mem _ hb)
    rw [rtN, rt_keeps hv hn r _ _ _ hr (by omega)]
    have := fig_fix (t := t) (b := b) (bits_map hv ps) (hs b List.mem_cons_self) (bits_tell hv hr)
    rw [List.length_map, List.length_map, show ps.length + r.length + 1 = m by omega] at this
    exact this
  | .pl p :: r, t, m, ps, hs, hm => by
    rw [List.length_cons] at hm
    have hr : ∀ b, Sn.bit b ∈ r → b < 2 := fun b hb => hs b (List.mem_cons_of_mem _ hb)
    rw [rtN]
    by_cases h : Z.isNot p = true
    · rw [if_pos h, rt_keeps hv hn r _ _ _ hr (by rw [List.length_append, List.length_singleton]; omega), List.map_append, List.append_assoc]
      have := fig_flip (t := t) (b := v (Z.under p)) (bits_map hv ps) (hv _) (bits_tell hv hr)
      rw [List.length_map, List.length_map, show ps.length + r.length + 1 = m by omega, ← hn p h] at this
      exact this
    · rw [if_neg h, rt_keeps hv hn r _ _ _ hr (by rw [List.length_append, List.length_singleton]; omega), List.map_append, List.append_assoc]
      rfl
theorem split_at {ps : List Nat} {j : Nat} (h : j < ps.length) : ps = ps.take j ++ ps[j] :: ps.drop (j + 1) := by
  rw [List.getElem_cons_drop, List.take_append_drop]
theorem unlike_keeps {v : Nat → Nat} (hv : ∀ p, v p < 2) (t : Nat) (ps : List Nat) (j : Nat) : figN (unlikeN t ps j).1 (numN ((unlikeN t ps j).2.map v)) = figN t (numN (ps.map v)) := by
  fun_induction unlikeN t ps j with
  | case1 t ps j hj h2 ih =>
    rw [ih]
    have hk : ps.idxOf ps[j] < j := by
      have h3 := List.idxOf_lt_length_iff.mpr h2
      rw [List.length_take] at h3
      have h4 : ∀ x, x ∈ ps.take j → (ps.take j).idxOf x = ps.idxOf x := fun x hx => by
        conv => rhs; rw [← List.take_append_drop j ps]
        rw [List.idxOf_append, if_pos hx]
      have h4 := h4 _ h2
      omega
    have e := fig_join (t := t) (k := ps.idxOf ps[j]) (bits_map hv (ps.take j)) (bits_map hv (ps.drop (j + 1))) (by rw [List.length_map, List.length_take]; omega)
    have e1 : ((ps.take j).map v).length = j := by rw [List.length_map, List.length_take]; omega
    have e2 : ((ps.drop (j + 1)).map v).length = ps.length - (j + 1) := by rw [List.length_map, List.length_drop]
    have e3 : ((ps.take j).map v).getD (ps.idxOf ps[j]) 0 = v ps[j] := by
      rw [List.getD_eq_getElem?_getD, List.getElem?_map, List.getElem?_take, if_pos hk, List.getElem?_eq_getElem (by omega)]
      show v ps[ps.idxOf ps[j]] = v ps[j]
      rw [List.getElem_idxOf]
    rw [e1, e2, e3, show j + (ps.length - (j + 1)) + 1 = ps.length by omega] at e
    rw [List.map_append, e]
    conv => rhs; rw [split_at hj, List.map_append, List.map_cons]
  | case2 t ps j hj h2 ih => exact ih
  | case3 t ps j hj => rfl
theorem hung_keeps {v : Nat → Nat} (hv : ∀ p, v p < 2) (t : Nat) (ps : List Nat) (j : Nat) : figN (hungN t ps j).1 (numN ((hungN t ps j).2.map v)) = figN t (numN (ps.map v)) := by
  fun_induction hungN t ps j with
  | case1 t ps j hj h2 ih => exact ih
  | case2 t ps j hj h2 ih =>
    rw [ih]
    have e := fig_fix (t := t) (b := 0) (bits_map hv (ps.take j)) (by decide) (bits_map hv (ps.drop (j + 1)))
    have e1 : ((ps.take j).map v).length = j := by rw [List.length_map, List.length_take]; omega
    have e2 : ((ps.drop (j + 1)).map v).length = ps.length - (j + 1) := by rw [List.length_map, List.length_drop]
    have n := not_hang (t := t) (b := 0) (c := v ps[j]) (bits_map hv (ps.take j)) (by decide) (hv _) (bits_map hv (ps.drop (j + 1)))
    rw [e1, e2, show j + (ps.length - (j + 1)) + 1 = ps.length by omega] at e n
    rw [List.map_append, e, n (by simpa using h2)]
    conv => rhs; rw [split_at hj, List.map_append, List.map_cons]
  | case3 t ps j hj => rfl
theorem clean_keeps {v : Nat → Nat} (hv : ∀ p, v p < 2) (q : Nat × List Nat) : figN (cleanN q).1 (numN ((cleanN q).2.map v)) = figN q.1 (numN (q.2.map v)) := by
  unfold cleanN
  rw [hung_keeps hv, unlike_keeps hv]
/-! rising -/
theorem fold_bit : ∀ (qs : List (Nat × Nat)) (r a i : Nat), (qs.foldl (fun made q => made ||| (r >>> q.2 &&& 1) <<< q.1) a).testBit i = (a.testBit i || qs.any fun q => decide (q.1 = i) && r.testBit q.2)
  | [], r, a, i => by simp
  | q :: qs, r, a, i => by
    rw [List.foldl_cons, fold_bit qs, List.any_cons, Nat.testBit_or, Bool.or_assoc]
    congr 2
    rw [Nat.testBit_shiftLeft, bit_one (by rw [Nat.and_one_is_mod]; omega)]
    by_cases h : q.1 = i
    · subst h
      simp [Nat.testBit, Nat.and_comm, Nat.one_and_eq_mod_two, Nat.and_one_is_mod]
    · by_cases h2 : i < q.1
      · simp [h, show ¬ q.1 ≤ i by omega]
      · simp [h, show ¬ i - q.1 = 0 by omega]
theorem lex_trans (a b c : Nat × Nat) (h1 : lexB a b = true) (h2 : lexB b c = true) : lexB a c = true := by
  unfold lexB at *
  simp at *
  omega
theorem lex_total (a b : Nat × Nat) : (lexB a b || lexB b a) = true := by
  unfold lexB
  simp
  omega
theorem sortP_fst (ps : List Nat) : (sortP ps.zipIdx).map (·.1) = sortN ps := by
  have p1 : ((sortP ps.zipIdx).map (·.1)).Perm (sortN ps) := by
    refine ((sortP_perm ps.zipIdx).map (·.1)).trans ?_
    rw [List.zipIdx_map_fst]
    exact (sort_perm ps).symm
  have s1 : ((sortP ps.zipIdx).map (·.1)).Pairwise (· ≤ ·) := by
    rw [List.pairwise_map]
    refine (List.pairwise_mergeSort lex_trans lex_total ps.zipIdx).imp fun {a b} h => ?_
    unfold lexB at h
    simp at h
    omega
  have s2 : (sortN ps).Pairwise (· ≤ ·) := by
    refine (List.pairwise_mergeSort (le := fun a b => decide (a ≤ b)) (fun a b c h1 h2 => ?_) (fun a b => ?_) ps).imp fun {a b} h => ?_
    · simp at *; omega
    · simp; omega
    · simpa using h
  exact p1.eq_of_pairwise (fun a b _ _ h1 h2 => Nat.le_antisymm h1 h2) s1 s2
theorem row_by {v : Nat → Nat} (hv : ∀ p, v p < 2) (ps : List Nat) : rowByN (numN ((sortN ps).map v)) ((sortP ps.zipIdx).map (·.2)) = numN (ps.map v) := by
  refine Nat.eq_of_testBit_eq fun i => ?_
  unfold rowByN
  rw [fold_bit, num_bit (bits_map hv ps), Nat.zero_testBit, Bool.false_or, Bool.eq_iff_iff, List.any_eq_true, decide_eq_true_iff]
  have key : ∀ j k, ((sortP ps.zipIdx).map (·.2))[j]? = some k → ((sortN ps).map v).getD j 0 = (ps.map v).getD k 0 := fun j k h => by
    rw [List.getElem?_map] at h
    obtain ⟨x, hx, rfl⟩ := Option.map_eq_some_iff.mp h
    have hm : x ∈ ps.zipIdx := (sortP_perm _).mem_iff.mp (List.mem_of_getElem? hx)
    have h1 : ps[x.2]? = some x.1 := by
      obtain ⟨y, k⟩ := x
      have := List.mem_zipIdx_iff_getElem?.mp hm
      exact this
    rw [← sortP_fst ps, List.getD_eq_getElem?_getD, List.getD_eq_getElem?_getD, List.getElem?_map, List.getElem?_map, List.getElem?_map, hx, h1]
    rfl
  constructor
  · rintro ⟨⟨k, j⟩, hm, h⟩
    have hm := List.mem_zipIdx_iff_getElem?.mp hm
    simp only [Bool.and_eq_true, decide_eq_true_eq] at h
    obtain ⟨rfl, h⟩ := h
    rw [num_bit (bits_map hv _), key j k hm] at h
    exact of_decide_eq_true h
  · intro h
    have hi : i < ps.length := by
      refine Decidable.byContradiction fun z => ?_
      rw [List.getD_eq_getElem?_getD, List.getElem?_eq_none (by rw [List.length_map]; omega)] at h
      cases h
    have hm : (ps[i], i) ∈ sortP ps.zipIdx := (sortP_perm _).mem_iff.mpr (List.mem_zipIdx_iff_getElem?.mpr (List.getElem?_eq_getElem hi))
    obtain ⟨j, hj⟩ := List.mem_iff_getElem?.mp hm
    have hk : ((sortP ps.zipIdx).map (·.2))[j]? = some i := by rw [List.getElem?_map, hj]; rfl
    refine ⟨(i, j), List.mem_zipIdx_iff_getElem?.mpr hk, ?_⟩
    simp only [Bool.and_eq_true, decide_eq_true_eq, true_and]
    rw [num_bit (bits_map hv _), key j i hk, h]
    rfl
theorem rising_keeps {v : Nat → Nat} (hv : ∀ p, v p < 2) (t : Nat) (ps : List Nat) : figN (risingN t ps).1 (numN ((risingN t ps).2.map v)) = figN t (numN (ps.map v)) := by
  unfold risingN ordN
  rw [fig_num (fun _ => figN_le _ _), row_by hv]
  have := (bits_map hv (sortN ps)).lt
  rw [List.length_map, (sort_perm ps).length_eq] at this
  rw [List.length_map, (sortP_perm _).length_eq, List.length_zipIdx]
  exact this
end M
set_option autoImplicit false
set_option linter.all false
/-! The senses tell what the places carry. -/
namespace M
def rowM (found : List Nat) (ps : List Nat) : Nat := ps.zipIdx.foldl (fun s q => s + found.getD q.1 0 * ([1, 2, 4] : List Nat).getD q.2 0) 0
def gateM (found : List Nat) (g : Gate) : Nat := (g.1 >>> rowM found g.2) &&& 1
def valsM (gs : List Gate) (f : List Nat) : List Nat := gs.foldl (fun f g => f ++ [gateM f g]) f
abbrev at0 (f : List Nat) (p : Nat) : Nat := f.getD p 0
theorem row_num (f : List Nat) : ∀ {ps : List Nat}, ps.length ≤ 3 → rowM f ps = numN (ps.map (at0 f))
  | [], _ => rfl
  | [a], _ => by simp [rowM, numN]
  | [a, b], _ => by simp [rowM, numN]; omega
  | [a, b, c], _ => by simp [rowM, numN]; omega
  | _ :: _ :: _ :: _ :: _, h => by simp only [List.length_cons] at h; omega
theorem gate_fig (f : List Nat) {g : Gate} (h : g.2.length ≤ 3) : gateM f g = figN g.1 (numN (g.2.map (at0 f))) := by
  unfold gateM figN
  rw [row_num f h]
theorem vals_cons (g : Gate) (gs : List Gate) (f : List Nat) : valsM (g :: gs) f = valsM gs (f ++ [gateM f g]) := rfl
theorem vals_app (gs hs : List Gate) (f : List Nat) : valsM (gs ++ hs) f = valsM hs (valsM gs f) := List.foldl_append
theorem vals_length : ∀ (gs : List Gate) (f : List Nat), (valsM gs f).length = f.length + gs.length
  | [], f => rfl
  | g :: gs, f => by
    rw [vals_cons, vals_length gs, List.length_append, List.length_singleton, List.length_cons]
    omega
theorem vals_low : ∀ (gs : List Gate) (f : List Nat) {p : Nat}, p < f.length → at0 (valsM gs f) p = at0 f p
  | [], f, p, h => rfl
  | g :: gs, f, p, h => by
    rw [vals_cons, vals_low gs _ (by rw [List.length_append]; omega)]
    exact getD_app1 h
theorem vals_bits : ∀ (gs : List Gate) {f : List Nat}, Bits f → Bits (valsM gs f)
  | [], f, h => h
  | g :: gs, f, h => vals_bits gs (h.app fun x hx => by
    rw [List.mem_singleton.mp hx]
    exact Nat.lt_succ_of_le (figN_le _ _))
theorem bits_at {f : List Nat} (h : Bits f) (p : Nat) : at0 f p < 2 := by
  unfold at0
  rw [List.getD_eq_getElem?_getD]
  cases e : f[p]? with
  | none => decide
  | some x => exact h x (List.mem_of_getElem? e)
theorem vals_gate : ∀ (gs : List Gate) (f : List Nat) {i : Nat} {g : Gate}, gs[i]? = some g → g.2.length ≤ 3 → (∀ p ∈ g.2, p < f.length + i) → at0 (valsM gs f) (f.length + i) = figN g.1 (numN (g.2.map (at0 (valsM gs f))))
  | [], f, i, g, h, _, _ => by simp at h
  | x :: gs, f, 0, g, h, hl, hp => by
    simp at h
    subst h
    rw [vals_cons, vals_low gs _ (by rw [List.length_append, List.length_singleton]; omega)]
    have e : at0 (f ++ [gateM f x]) (f.length + 0) = gateM f x := by
      show (f ++ [gateM f x]).getD f.length 0 = _
      rw [getD_app2 (Nat.le_refl _), Nat.sub_self]
      rfl
    rw [e, gate_fig f hl]
    congr 2
    refine List.map_congr_left fun p hm => ?_
    have := hp p hm
    rw [vals_low gs _ (by rw [List.length_append]; omega)]
    exact (getD_app1 (by omega)).symm
  | x :: gs, f, i + 1, g, h, hl, hp => by
    have e : f.length + (i + 1) = (f ++ [gateM f x]).length + i := by rw [List.length_append, List.length_singleton]; omega
    rw [vals_cons, e]
    exact vals_gate gs _ (by simpa using h) hl fun p hm => by rw [← e]; exact hp p hm
/-- what the senses say holds at these bits -/
structure Tells (v : Nat → Nat) (Z : Sens) : Prop where
  told : ∀ p, p < Z.told.length → v p = tellS v (Z.say p)
  left : ∀ e ∈ Z.left, v e.1 = figN e.2.1 (numN (e.2.2.map v))
theorem Tells.isNot {v : Nat → Nat} {Z : Sens} (h : Tells v Z) (hv : ∀ p, v p < 2) {p : Nat} (hn : Z.isNot p = true) : v p = 1 - v (Z.under p) := by
  obtain ⟨u, e1, e2⟩ := notget hn
  have := h.left _ (get_mem e1)
  rw [e2]
  have hu := hv u
  simp only [List.map_cons, List.map_nil] at this
  rw [this, show numN [v u] = v u by simp [numN]]
  rcases (show v u = 0 ∨ v u = 1 by omega) with e | e <;> rw [e] <;> decide
theorem tells_next {v : Nat → Nat} {Z : Sens} (h : Tells v Z) (hv : ∀ p, v p < 2) (hb : ∀ b, Sn.bit b ∈ Z.told → b < 2) {g : Gate} (ht : Tab g.1 g.2.length) (hp : ∀ p ∈ g.2, p < Z.told.length) (hg : v Z.told.length = figN g.1 (numN (g.2.map v))) : Tells v (Z.next g) := by
  have hs : ∀ b, Sn.bit b ∈ g.2.map Z.say → b < 2 := fun b hm => by
    obtain ⟨p, hm, e⟩ := List.mem_map.mp hm
    exact hb b (by rw [← e]; exact say_mem (hp p hm))
  have e1 : v Z.told.length = figN (cleanN (Z.read g.1 (g.2.map Z.say))).1 (numN ((cleanN (Z.read g.1 (g.2.map Z.say))).2.map v)) := by
    rw [clean_keeps hv]
    unfold Sens.read
    rw [rt_keeps hv (fun p hn => h.isNot hv hn) _ _ _ _ hs (by simp), hg, List.map_nil, List.nil_append, List.map_map]
    congr 2
    exact List.map_congr_left fun p hm => h.told p (hp p hm)
  have htb := clean_tab (read_tab Z (t := g.1) (ss := g.2.map Z.say) (by rw [List.length_map]; exact ht))
  have eleft : (Z.next g).left = (Z.fin (cleanN (Z.read g.1 (g.2.map Z.say)))).2.left := rfl
  have enew : (Z.next g).say Z.told.length = (Z.fin (cleanN (Z.read g.1 (g.2.map Z.say)))).1 := say_new Z g
  generalize cleanN (Z.read g.1 (g.2.map Z.say)) = q at e1 htb eleft enew
  have key : v Z.told.length = tellS v (Z.fin q).1 ∧ ∀ e ∈ (Z.fin q).2.left, v e.1 = figN e.2.1 (numN (e.2.2.map v)) := by
    unfold Sens.fin
    by_cases h0 : q.2.length = 0
    · rw [if_pos h0]
      refine ⟨?_, h.left⟩
      rw [e1, List.eq_nil_of_length_eq_zero h0]
      rw [h0] at htb
      have : q.1 < 2 := htb
      show figN q.1 0 = q.1
      rcases (show q.1 = 0 ∨ q.1 = 1 by omega) with e | e <;> rw [e] <;> decide
    · rw [if_neg h0]
      by_cases h1 : q.2.length = 1 ∧ q.1 = 2
      · rw [if_pos h1]
        refine ⟨?_, h.left⟩
        obtain ⟨u, hu⟩ := List.length_eq_one_iff.mp h1.1
        rw [e1, hu, h1.2]
        have := hv u
        simp only [List.map_cons, List.map_nil, List.headD_cons, tellS]
        rw [show numN [v u] = v u by simp [numN]]
        rcases (show v u = 0 ∨ v u = 1 by omega) with e | e <;> rw [e] <;> decide
      · rw [if_neg h1]
        cases hm : Z.num (risingN q.1 q.2) with
        | some m =>
          refine ⟨?_, h.left⟩
          have := h.left _ (num_mem hm)
          simp only [rising_keeps hv] at this
          rw [e1]
          exact this.symm
        | none =>
          refine ⟨rfl, fun e he => ?_⟩
          rcases List.mem_append.mp he with he | he
          · exact h.left e he
          · rw [List.mem_singleton.mp he]
            simp only [rising_keeps hv]
            exact e1
  refine ⟨fun p hpl => ?_, fun e he => key.2 e (by rw [← eleft]; exact he)⟩
  rw [told_next_len] at hpl
  by_cases hlt : p < Z.told.length
  · rw [say_next hlt]
    exact h.told p hlt
  · rw [show p = Z.told.length by omega, enew]
    exact key.1
/-- the memories carry what the reading tells of them -/
def Agree (c : Circ) (s : List Nat) : Prop := ∀ i x, (widestN c)[i]? = some x → at0 s i = tellS (fun w => at0 s (w - c.ins)) x
theorem tells_start {c : Circ} {s ins : List Nat} (hi : ins.length = c.ins) (hs : s.length = c.mems.length) (ha : Agree c s) {v : Nat → Nat} (hv : ∀ p, p < c.first → v p = at0 (ins ++ s) p) : Tells v ⟨(List.range c.ins).map .pl ++ widestN c, []⟩ := by
  have hw := widest_inv c
  have hwl := hw.len
  have hf : c.first = c.ins + c.mems.length := rfl
  refine ⟨fun p hp => ?_, fun e he => nomatch he⟩
  simp only [List.length_append, List.length_map, List.length_range] at hp
  unfold Sens.say
  by_cases h : p < c.ins
  · rw [List.getD_eq_getElem?_getD, List.getElem?_append_left (by rw [List.length_map, List.length_range]; exact h), List.getElem?_map, List.getElem?_range h]
    rfl
  · rw [List.getD_eq_getElem?_getD, List.getElem?_append_right (by rw [List.length_map, List.length_range]; omega), List.length_map, List.length_range]
    have hlt : p - c.ins < (widestN c).length := by omega
    rw [List.getElem?_eq_getElem hlt, Option.getD_some]
    have e := ha (p - c.ins) _ (List.getElem?_eq_getElem hlt)
    have hm : (widestN c)[p - c.ins] ∈ widestN c := List.getElem_mem hlt
    rw [hv p (by omega), show at0 (ins ++ s) p = at0 s (p - c.ins) by unfold at0; rw [getD_app2 (by omega), hi], e]
    generalize (widestN c)[p - c.ins] = x at hm
    cases x with
    | bit b => rfl
    | pl w =>
      have h1 := hw.can w hm
      have h2 := List.idxOf_lt_length_iff.mpr hm
      show at0 s (w - c.ins) = v w
      rw [hv w (by omega)]
      unfold at0
      rw [getD_app2 (by omega), hi]
theorem tells_fold {c : Circ} (hc : COk c) {v : Nat → Nat} (hv : ∀ p, v p < 2) (hg : ∀ i g, c.gates[i]? = some g → v (c.first + i) = figN g.1 (numN (g.2.map v))) : ∀ (r pre : List Gate) (Z : Sens), c.gates = pre ++ r → ZInv c Z (c.first + pre.length) → Tells v Z → Tells v (r.foldl Sens.next Z) := by
  intro r
  induction r with
  | nil => exact fun _ _ _ _ h => h
  | cons g r ih =>
    intro pre Z e hz h
    have he : c.gates[pre.length]? = some g := by rw [e, List.getElem?_append_right (Nat.le_refl _), Nat.sub_self]; rfl
    obtain ⟨h1, h2, h3⟩ := hc.gate _ _ he
    have hl := hz.ok.len
    refine ih (pre ++ [g]) (Z.next g) (by rw [e, List.append_assoc]; rfl) ?_ ?_
    · rw [List.length_append, ← Nat.add_assoc]
      exact next_inv hz (Nat.le_add_right _ _) h2 h1 h3
    · exact tells_next h hv hz.ok.bits h2 (by rw [hl]; exact h3) (by rw [hl]; exact hg _ _ he)
/-- one turn of a circuit: the senses tell its places -/
theorem tells_turn {c : Circ} (hc : COk c) {s ins : List Nat} (hi : ins.length = c.ins) (hs : s.length = c.mems.length) (hib : Bits ins) (hsb : Bits s) (ha : Agree c s) : Tells (at0 (valsM c.gates (ins ++ s))) (sensN c) := by
  have hf : (ins ++ s).length = c.first := by rw [List.length_append, hi, hs]; rfl
  have hv := bits_at (vals_bits c.gates (hib.app hsb))
  refine tells_fold hc hv (fun i g hg => ?_) c.gates [] _ rfl (start_inv hc (widest_inv c)) (tells_start hi hs ha fun p hp => vals_low _ _ (by rw [hf]; exact hp))
  obtain ⟨h1, h2, h3⟩ := hc.gate _ _ hg
  have := vals_gate c.gates (ins ++ s) hg h1 (by rw [hf]; exact h3)
  rw [hf] at this
  exact this
def aftM (c : Circ) (v : Nat → Nat) : List Nat := c.mems.map fun m => v m.2
def firM (c : Circ) : List Nat := c.mems.map (·.1)
theorem aft_at {c : Circ} (v : Nat → Nat) {i : Nat} {m : Nat × Nat} (h : c.mems[i]? = some m) : at0 (aftM c v) i = v m.2 := by
  unfold at0 aftM
  rw [List.getD_eq_getElem?_getD, List.getElem?_map, h]
  rfl
theorem fir_at {c : Circ} {i : Nat} {m : Nat × Nat} (h : c.mems[i]? = some m) : at0 (firM c) i = m.1 := by
  unfold at0 firM
  rw [List.getD_eq_getElem?_getD, List.getElem?_map, h]
  rfl
theorem agree_first (c : Circ) : Agree c (firM c) := fun i x hx => by
  have hw := widest_inv c
  have hi : i < c.mems.length := by
    have := (List.getElem?_eq_some_iff.mp hx).1
    rw [hw.len] at this
    exact this
  rw [fir_at (List.getElem?_eq_getElem hi)]
  cases x with
  | bit b =>
    have := hw.bit i b hx
    rw [List.getElem?_eq_getElem hi] at this
    injection this
  | pl w =>
    have hm := List.mem_of_getElem? hx
    have h1 := hw.can w hm
    have h2 := List.idxOf_lt_length_iff.mpr hm
    have h3 : (widestN c)[(widestN c).idxOf (.pl w)]? = some (.pl w) := by
      rw [List.getElem?_eq_getElem h2, List.getElem_idxOf]
    have h4 := hw.one i _ _ hx h3
    rw [hw.len] at h2
    rw [List.getElem?_eq_getElem hi, List.getElem?_eq_getElem h2] at h4
    injection h4 with h4
    show _ = at0 (firM c) (w - c.ins)
    rw [show w - c.ins = (widestN c).idxOf (.pl w) by omega, fir_at (List.getElem?_eq_getElem h2)]
    exact h4
theorem marks_snd {c : Circ} {told : List Sn} {i : Nat} {m : Sn × Sn} (h : (marksN c told)[i]? = some m) : ∃ x, c.mems[i]? = some x ∧ m.2 = (initN c told).say x.2 := by
  unfold marksN at h
  have := (List.getElem?_zip_eq_some.mp h).2
  rw [List.getElem?_map] at this
  obtain ⟨x, hx, e⟩ := Option.map_eq_some_iff.mp this
  exact ⟨x, hx, e.symm⟩
/-- what the reading tells of the memories holds a turn later, too -/
theorem agree_next {c : Circ} (hc : COk c) {v : Nat → Nat} (ht : Tells v (sensN c)) : Agree c (aftM c v) := fun i x hx => by
  have hz := sens_inv hc
  have hv : ∀ {j : Nat} {m : Sn × Sn}, (marksN c (widestN c))[j]? = some m → at0 (aftM c v) j = tellS v m.2 := fun {j m} hj => by
    obtain ⟨y, hy, e⟩ := marks_snd hj
    rw [aft_at v hy, e]
    exact ht.told _ (by rw [hz.ok.len]; exact (hc.mem y (List.mem_of_getElem? hy)).2)
  have hk := hx
  rw [← widest_kept] at hk
  obtain ⟨m, hm, e⟩ := parted_get hk
  rw [hv hm]
  cases x with
  | bit b =>
    rw [label_bit e]
    rfl
  | pl w =>
    have h1 := label_pl e
    have h2 := List.idxOf_lt_length_iff.mpr (List.mem_of_getElem? hm)
    show _ = at0 (aftM c v) (w - c.ins)
    rw [show w - c.ins = (marksN c (widestN c)).idxOf m by omega, hv (m := m) (by rw [List.getElem?_eq_getElem h2, List.getElem_idxOf])]
end M
set_option autoImplicit false
set_option linter.all false
/-! The circuit that is made: its form, and what its places carry. -/
namespace M
abbrev low0 (c : Circ) : Nat := c.ins + (keptN c).length
theorem look_mem {β : Type} {l : List (Sn × β)} {s : Sn} (h : lookL l s = none) : (l.any fun e => decide (e.1 = s)) = false := by
  unfold lookL at h
  rw [Option.map_eq_none_iff, List.find?_eq_none] at h
  rw [List.any_eq_false]
  exact h
theorem kept_nodup (c : Circ) : (List.range c.ins ++ keptN c).Nodup := by
  refine List.nodup_append.mpr ⟨List.nodup_range, ?_, fun a ha b hb e => ?_⟩
  · unfold keptN ownN
    refine List.Pairwise.filter _ (List.Pairwise.filter _ ?_)
    rw [List.pairwise_map]
    exact (List.nodup_range (n := c.mems.length)).imp fun h z => h (by omega)
  · have := List.mem_range.mp ha
    have := (kept_mem.mp hb).1
    omega
theorem fold_look : ∀ (ps pre : List Nat) (l : List (Sn × Nat)), l.length = pre.length → (∀ s n, lookL l s = some n → ∃ p, s = .pl p ∧ pre[n]? = some p) → (pre ++ ps).Nodup → ∀ s n, lookL (ps.foldl (fun l p => putL l (.pl p) l.length) l) s = some n → ∃ p, s = .pl p ∧ (pre ++ ps)[n]? = some p
  | [], pre, l, _, h, _ => by rw [List.append_nil]; exact h
  | q :: ps, pre, l, hl, h, hn => by
    have hq : ¬ q ∈ pre := fun z => by
      rw [List.nodup_append] at hn
      exact hn.2.2 q z q List.mem_cons_self rfl
    have hno : lookL l (.pl q) = none := by
      cases e : lookL l (.pl q) with
      | none => rfl
      | some n =>
        obtain ⟨p, e1, e2⟩ := h _ _ e
        injection e1 with e1
        subst e1
        exact absurd (List.mem_of_getElem? e2) hq
    have e : putL l (.pl q) l.length = l ++ [(.pl q, l.length)] := by
      unfold putL
      rw [if_neg (by rw [look_mem hno]; exact Bool.false_ne_true)]
    have := fold_look ps (pre ++ [q]) (putL l (.pl q) l.length) (by rw [e, List.length_append, List.length_append, hl]; rfl) (fun s n hs => ?_) (by rw [List.append_assoc]; exact hn)
    · rw [List.append_assoc] at this
      exact this
    · rw [lookL_putL] at hs
      by_cases z : s = .pl q
      · rw [if_pos z] at hs
        injection hs with hs
        refine ⟨q, z, ?_⟩
        rw [← hs, hl, List.getElem?_append_right (Nat.le_refl _), Nat.sub_self]
        rfl
      · rw [if_neg z] at hs
        obtain ⟨p, e1, e2⟩ := h _ _ hs
        refine ⟨p, e1, ?_⟩
        rw [List.getElem?_append_left (List.getElem?_eq_some_iff.mp e2).1]
        exact e2
theorem look0 (c : Circ) {s : Sn} {n : Nat} (h : lookL (mk0 c).fr s = some n) : ∃ p, s = .pl p ∧ (List.range c.ins ++ keptN c)[n]? = some p := by
  have := fold_look (List.range c.ins ++ keptN c) [] [] rfl (fun s n h => nomatch h) (kept_nodup c) s n h
  exact this
/-- its form -/
structure MkShape (c : Circ) (m : Mk) : Prop where
  look : ∀ s n, lookL m.fr s = some n → n < low0 c + m.gates.length
  gate : ∀ (i : Nat) (g : Gate), m.gates[i]? = some g → g.2.length ≤ 3 ∧ ∀ p ∈ g.2, p < low0 c + i
/-- what its places carry -/
structure MkVal (v : Nat → Nat) (f : List Nat) (m : Mk) : Prop where
  look : ∀ s n, lookL m.fr s = some n → at0 (valsM m.gates f) n = tellS v s
theorem shape0 (c : Circ) : MkShape c (mk0 c) where
  look := fun s n h => by
    obtain ⟨p, _, e⟩ := look0 c h
    have := (List.getElem?_eq_some_iff.mp e).1
    rw [List.length_append, List.length_range] at this
    exact this
  gate := fun i g h => by
    have : ([] : List Gate)[i]? = some g := h
    simp at this
theorem shape_put {c : Circ} {m : Mk} (h : MkShape c m) (s : Sn) {g : Gate} (hl : g.2.length ≤ 3) (hp : ∀ p ∈ g.2, p < low0 c + m.gates.length) : MkShape c ⟨putL m.fr s (low0 c + m.gates.length), m.gates ++ [g]⟩ where
  look := fun t n e => by
    rw [List.length_append, List.length_singleton]
    have e : lookL (putL m.fr s (low0 c + m.gates.length)) t = some n := e
    rw [lookL_putL] at e
    by_cases z : t = s
    · rw [if_pos z] at e
      injection e with e
      omega
    · rw [if_neg z] at e
      have := h.look t n e
      omega
  gate := fun i x e => by
    have e : (m.gates ++ [g])[i]? = some x := e
    by_cases z : i < m.gates.length
    · rw [List.getElem?_append_left z] at e
      exact h.gate i x e
    · rw [List.getElem?_append_right (by omega)] at e
      have hx := List.mem_singleton.mp (List.mem_of_getElem? e)
      rw [hx]
      refine ⟨hl, fun p hm => ?_⟩
      have := hp p hm
      omega
theorem val_put {c : Circ} {m : Mk} {v : Nat → Nat} {f : List Nat} (hf : f.length = low0 c) (hs : MkShape c m) (h : MkVal v f m) (s : Sn) {g : Gate} (hg : gateM (valsM m.gates f) g = tellS v s) : MkVal v f ⟨putL m.fr s (low0 c + m.gates.length), m.gates ++ [g]⟩ where
  look := fun t n e => by
    have e : lookL (putL m.fr s (low0 c + m.gates.length)) t = some n := e
    have hl := vals_length m.gates f
    show at0 (valsM (m.gates ++ [g]) f) n = _
    rw [vals_app]
    show (valsM m.gates f ++ [gateM (valsM m.gates f) g]).getD n 0 = _
    rw [lookL_putL] at e
    by_cases z : t = s
    · rw [if_pos z] at e
      injection e with e
      rw [getD_app2 (by omega), z, ← hg, show n - (valsM m.gates f).length = 0 by omega]
      rfl
    · rw [if_neg z] at e
      have := hs.look t n e
      rw [getD_app1 (by omega)]
      exact h.look t n e
theorem val0 {c : Circ} {v : Nat → Nat} {f : List Nat} (hl : ∀ n p, (List.range c.ins ++ keptN c)[n]? = some p → at0 f n = v p) : MkVal v f (mk0 c) where
  look := fun s n h => by
    obtain ⟨p, rfl, e⟩ := look0 c h
    exact hl n p e
theorem shape_bit {c : Circ} {m : Mk} (h : MkShape c m) (b : Nat) : MkShape c (mkBit c m b) := by
  unfold mkBit
  split
  · exact shape_put h _ (g := (b, [])) (Nat.zero_le _) fun p hp => nomatch hp
  · exact h
theorem val_bit {c : Circ} {m : Mk} {v : Nat → Nat} {f : List Nat} (hf : f.length = low0 c) (hs : MkShape c m) (h : MkVal v f m) {b : Nat} (hb : b < 2) : MkVal v f (mkBit c m b) := by
  unfold mkBit
  split
  · refine val_put hf hs h _ (g := (b, [])) ?_
    rw [gate_fig _ (g := (b, [])) (Nat.zero_le _)]
    show figN b 0 = b
    rcases (show b = 0 ∨ b = 1 by omega) with e | e <;> rw [e] <;> decide
  · exact h
theorem fresh_of {β : Type} {l : List (Sn × β)} {s : Sn} (h : (lookL l s).isSome = true) : ∃ n, lookL l s = some n := Option.isSome_iff_exists.mp h
theorem fresh_eq {l : List (Sn × Nat)} {s : Sn} {n : Nat} (h : lookL l s = some n) : freshN l s = n := by
  unfold freshN
  rw [h]
  rfl
theorem shape_left {c : Circ} {m : Mk} (h : MkShape c m) (e : Nat × Gate) (hl : e.2.2.length ≤ 3) (hp : .pl e.1 ∈ needN c → ∀ o ∈ e.2.2, (lookL m.fr (.pl o)).isSome = true) : MkShape c (mkLeft c m e) := by
  unfold mkLeft
  by_cases z : .pl e.1 ∈ needN c
  · rw [if_pos z]
    refine shape_put h _ (g := (e.2.1, e.2.2.map fun o => freshN m.fr (.pl o))) (by simp only [List.length_map]; exact hl) fun p hm => ?_
    obtain ⟨o, ho, rfl⟩ := List.mem_map.mp hm
    obtain ⟨n, hn⟩ := fresh_of (hp z o ho)
    show freshN m.fr (.pl o) < _
    rw [fresh_eq hn]
    exact h.look _ n hn
  · rw [if_neg z]
    exact h
theorem val_left {c : Circ} {m : Mk} {v : Nat → Nat} {f : List Nat} (hf : f.length = low0 c) (hs : MkShape c m) (h : MkVal v f m) (e : Nat × Gate) (hl : e.2.2.length ≤ 3) (hp : .pl e.1 ∈ needN c → ∀ o ∈ e.2.2, (lookL m.fr (.pl o)).isSome = true) (hv : v e.1 = figN e.2.1 (numN (e.2.2.map v))) : MkVal v f (mkLeft c m e) := by
  unfold mkLeft
  by_cases z : .pl e.1 ∈ needN c
  · rw [if_pos z]
    refine val_put hf hs h _ (g := (e.2.1, e.2.2.map fun o => freshN m.fr (.pl o))) ?_
    rw [gate_fig _ (g := (e.2.1, e.2.2.map fun o => freshN m.fr (.pl o))) (by simp only [List.length_map]; exact hl)]
    show figN e.2.1 (numN ((e.2.2.map fun o => freshN m.fr (.pl o)).map _)) = v e.1
    rw [hv, List.map_map]
    congr 2
    refine List.map_congr_left fun o ho => ?_
    obtain ⟨n, hn⟩ := fresh_of (hp z o ho)
    show at0 (valsM m.gates f) (freshN m.fr (.pl o)) = v o
    rw [fresh_eq hn]
    exact h.look _ n hn
  · rw [if_neg z]
    exact h
theorem shape2 (c : Circ) : MkShape c (mk2 c) := shape_bit (shape_bit (shape0 c) 0) 1
theorem val2 {c : Circ} {v : Nat → Nat} {f : List Nat} (hf : f.length = low0 c) (hl : ∀ n p, (List.range c.ins ++ keptN c)[n]? = some p → at0 f n = v p) : MkVal v f (mk2 c) := val_bit hf (shape_bit (shape0 c) 0) (val_bit hf (shape0 c) (val0 hl) (by decide)) (by decide)
theorem shape_fold {c : Circ} (hc : COk c) : ∀ (r pre : List (Nat × Gate)) (m : Mk), (sensN c).left = pre ++ r → FrOk c pre m → MkShape c m → MkShape c (r.foldl (mkLeft c) m)
  | [], pre, m, _, _, h => h
  | e :: r, pre, m, hl, hf, h => by
    have hm : (e.1, e.2) ∈ (sensN c).left := by rw [hl]; simp
    exact shape_fold hc r (pre ++ [e]) (mkLeft c m e) (by rw [hl, List.append_assoc]; rfl) (fr_step hf e) (shape_left h e ((sens_inv hc).left _ hm).len fun hn => fr_before hc hl hf hn)
theorem val_fold {c : Circ} (hc : COk c) {v : Nat → Nat} {f : List Nat} (hf0 : f.length = low0 c) (ht : Tells v (sensN c)) : ∀ (r pre : List (Nat × Gate)) (m : Mk), (sensN c).left = pre ++ r → FrOk c pre m → MkShape c m → MkVal v f m → MkVal v f (r.foldl (mkLeft c) m)
  | [], pre, m, _, _, _, h => h
  | e :: r, pre, m, hl, hf, hs, h => by
    have hm : (e.1, e.2) ∈ (sensN c).left := by rw [hl]; simp
    have h3 := ((sens_inv hc).left _ hm).len
    exact val_fold hc hf0 ht r (pre ++ [e]) (mkLeft c m e) (by rw [hl, List.append_assoc]; rfl) (fr_step hf e) (shape_left hs e h3 fun hn => fr_before hc hl hf hn) (val_left hf0 hs h e h3 (fun hn => fr_before hc hl hf hn) (ht.left _ hm))
theorem shape_all {c : Circ} (hc : COk c) : MkShape c (mkN c) := shape_fold hc (sensN c).left [] (mk2 c) rfl (fr2 c) (shape2 c)
theorem val_all {c : Circ} (hc : COk c) {v : Nat → Nat} {f : List Nat} (hf : f.length = low0 c) (ht : Tells v (sensN c)) (hl : ∀ n p, (List.range c.ins ++ keptN c)[n]? = some p → at0 f n = v p) : MkVal v f (mkN c) := val_fold hc hf ht (sensN c).left [] (mk2 c) rfl (fr2 c) (shape2 c) (val2 hf hl)
/-! the gates that are no bits -/
def nonB (gs : List Gate) : Nat := (gs.filter fun g => !decide (g.2 = [])).length
theorem nonB_app (gs : List Gate) (g : Gate) : nonB (gs ++ [g]) ≤ nonB gs + 1 ∧ (g.2 = [] → nonB (gs ++ [g]) = nonB gs) := by
  unfold nonB
  rw [List.filter_append, List.length_append]
  refine ⟨by have := List.length_filter_le (fun g : Gate => !decide (g.2 = [])) [g]; simp only [List.length_singleton] at this; omega, fun h => ?_⟩
  simp [h]
theorem nonB_bit (c : Circ) (m : Mk) (b : Nat) : nonB (mkBit c m b).gates = nonB m.gates := by
  unfold mkBit
  split
  · exact (nonB_app _ _).2 rfl
  · rfl
theorem nonB_left (c : Circ) : ∀ (r : List (Nat × Gate)) (m : Mk), nonB (r.foldl (mkLeft c) m).gates ≤ nonB m.gates + r.length
  | [], m => Nat.le_refl _
  | e :: r, m => by
    have h1 := nonB_left c r (mkLeft c m e)
    have h2 : nonB (mkLeft c m e).gates ≤ nonB m.gates + 1 := by
      unfold mkLeft
      split
      · exact (nonB_app _ _).1
      · exact Nat.le_succ _
    rw [List.foldl_cons, List.length_cons]
    omega
theorem nonB_all (c : Circ) : nonB (mkN c).gates ≤ c.gates.length := by
  have h1 := nonB_left c (sensN c).left (mk2 c)
  have h2 : nonB (mk2 c).gates = 0 := by
    unfold mk2
    rw [nonB_bit, nonB_bit]
    rfl
  have h3 := sens_left_len c
  have h4 : (mkN c).gates = ((sensN c).left.foldl (mkLeft c) (mk2 c)).gates := rfl
  rw [h4]
  omega
/-! the whole -/
theorem tidy_mems_len (c : Circ) : (tidyN c).mems.length = (keptN c).length := by
  show (List.zip _ _).length = _
  rw [List.length_zip, List.length_map, List.length_map, Nat.min_self]
theorem tidy_first (c : Circ) : (tidyN c).first = low0 c := by
  show c.ins + (tidyN c).mems.length = _
  rw [tidy_mems_len]
theorem zip_maps {α β γ : Type} (f : α → β) (g : α → γ) (l : List α) : (l.map f).zip (l.map g) = l.map fun x => (f x, g x) := by
  induction l with
  | nil => rfl
  | cons x l ih => rw [List.map_cons, List.map_cons, List.map_cons, List.zip_cons_cons, ih]
theorem tidy_mems (c : Circ) : (tidyN c).mems = (keptN c).map fun p => ((c.mems.getD (p - c.ins) (0, 0)).1, freshN (mkN c).fr ((sensN c).say (c.mems.getD (p - c.ins) (0, 0)).2)) := zip_maps _ _ _
theorem need_fresh {c : Circ} (hc : COk c) {s : Sn} (hn : s ∈ needN c) : freshN (mkN c).fr s < (tidyN c).first + (tidyN c).gates.length := by
  obtain ⟨n, e⟩ := fresh_of (fr_need hc hn)
  rw [fresh_eq e, tidy_first]
  exact (shape_all hc).look _ n e
theorem kept_at {c : Circ} {p : Nat} (hp : p ∈ keptN c) : c.mems[p - c.ins]? = some (c.mems.getD (p - c.ins) (0, 0)) := by
  obtain ⟨h1, h2, _⟩ := kept_mem.mp hp
  have hf : c.first = c.ins + c.mems.length := rfl
  have hi : p - c.ins < c.mems.length := by omega
  rw [List.getD_eq_getElem?_getD, List.getElem?_eq_getElem hi]
  rfl
theorem tidy_mem {c : Circ} (hc : COk c) : ∀ m ∈ (tidyN c).mems, m.1 < 2 ∧ m.2 < (tidyN c).first + (tidyN c).gates.length := fun m hm => by
  rw [tidy_mems] at hm
  obtain ⟨p, hp, rfl⟩ := List.mem_map.mp hm
  exact ⟨(hc.mem _ (List.mem_of_getElem? (kept_at hp))).1, need_fresh hc (need_next hc hp)⟩
theorem tidy_gate {c : Circ} (hc : COk c) : ∀ (i : Nat) (g : Gate), (tidyN c).gates[i]? = some g → g.2.length ≤ 3 ∧ ∀ p ∈ g.2, p < (tidyN c).first + i := fun i g h => by
  rw [tidy_first]
  exact (shape_all hc).gate i g h
theorem tidy_out {c : Circ} (hc : COk c) : ∀ p ∈ (tidyN c).outs, p < (tidyN c).first + (tidyN c).gates.length := fun p hp => by
  obtain ⟨o, ho, rfl⟩ := List.mem_map.mp (show p ∈ c.outs.map fun p => freshN (mkN c).fr ((sensN c).say p) from hp)
  exact need_fresh hc ((need_ok hc).out o ho)
def outM (c : Circ) (v : Nat → Nat) : List Nat := c.outs.map v
/-- the state of the made circuit by that of the given -/
def keepS (c : Circ) (s : List Nat) : List Nat := (keptN c).map fun p => at0 s (p - c.ins)
theorem keep_bits {c : Circ} {s : List Nat} (h : Bits s) : Bits (keepS c s) := fun x hx => by
  obtain ⟨p, _, rfl⟩ := List.mem_map.mp hx
  exact bits_at h _
theorem keep_first (c : Circ) : firM (tidyN c) = keepS c (firM c) := by
  unfold firM keepS
  rw [tidy_mems, List.map_map]
  refine List.map_congr_left fun p hp => ?_
  exact (fir_at (kept_at hp)).symm
/-- one turn: the same outs, and the states stay alike -/
theorem turn_alike {c : Circ} (hc : COk c) {s ins : List Nat} (hi : ins.length = c.ins) (hs : s.length = c.mems.length) (hib : Bits ins) (hsb : Bits s) (ha : Agree c s) :
    outM c (at0 (valsM c.gates (ins ++ s))) = outM (tidyN c) (at0 (valsM (tidyN c).gates (ins ++ keepS c s))) ∧ aftM (tidyN c) (at0 (valsM (tidyN c).gates (ins ++ keepS c s))) = keepS c (aftM c (at0 (valsM c.gates (ins ++ s)))) ∧ Agree c (aftM c (at0 (valsM c.gates (ins ++ s)))) := by
  have ht := tells_turn hc hi hs hib hsb ha
  have hz := sens_inv hc
  have hvl : ∀ p, p < c.first → at0 (valsM c.gates (ins ++ s)) p = at0 (ins ++ s) p := fun p hp => vals_low _ _ (by rw [List.length_append, hi, hs]; exact hp)
  generalize at0 (valsM c.gates (ins ++ s)) = v at ht hvl
  have hf : c.first = c.ins + c.mems.length := rfl
  have hl : ∀ n p, (List.range c.ins ++ keptN c)[n]? = some p → at0 (ins ++ keepS c s) n = v p := fun n p e => by
    by_cases z : n < c.ins
    · rw [List.getElem?_append_left (by rw [List.length_range]; exact z), List.getElem?_range z] at e
      injection e with e
      subst e
      rw [hvl n (by omega)]
      unfold at0
      rw [getD_app1 (by omega), getD_app1 (by omega)]
    · rw [List.getElem?_append_right (by rw [List.length_range]; omega), List.length_range] at e
      have hp := kept_mem.mp (List.mem_of_getElem? e)
      rw [hvl p hp.2.1]
      unfold at0
      rw [getD_app2 (by omega), getD_app2 (by omega), hi]
      unfold keepS
      rw [List.getD_eq_getElem?_getD, List.getElem?_map, e]
      rfl
  have hv := val_all hc (f := ins ++ keepS c s) (by rw [List.length_append, hi]; unfold keepS; rw [List.length_map]) ht hl
  have key : ∀ q, q = q → q < c.first + c.gates.length → (sensN c).say q ∈ needN c → at0 (valsM (tidyN c).gates (ins ++ keepS c s)) (freshN (mkN c).fr ((sensN c).say q)) = v q := fun q _ hq hn => by
    obtain ⟨n, e⟩ := fresh_of (fr_need hc hn)
    rw [fresh_eq e, ht.told q (by rw [hz.ok.len]; exact hq)]
    exact hv.look _ n e
  refine ⟨?_, ?_, agree_next hc ht⟩
  · show c.outs.map v = (c.outs.map fun p => freshN (mkN c).fr ((sensN c).say p)).map _
    rw [List.map_map]
    refine List.map_congr_left fun p hp => (key p rfl (hc.out p hp) ((need_ok hc).out p hp)).symm
  · unfold aftM keepS
    rw [tidy_mems, List.map_map]
    refine List.map_congr_left fun p hp => ?_
    have hm := kept_at hp
    show at0 (valsM (tidyN c).gates (ins ++ keepS c s)) (freshN (mkN c).fr ((sensN c).say (c.mems.getD (p - c.ins) (0, 0)).2)) = at0 (aftM c v) (p - c.ins)
    rw [aft_at v hm]
    exact key _ rfl (hc.mem _ (List.mem_of_getElem? hm)).2 (need_next hc hp)
end M
set_option autoImplicit false
set_option linter.all false
namespace G
open PySem PySem.Spec PyProof.Rows L2 D M
theorem tidy_vok {c : Circ} (hc : COk c) : VOk (tidyN c) where
  mem := tidy_mem hc
  gate := tidy_gate hc
  out := tidy_out hc
  ins := Nat.le_trans hc.ins (by decide)
  mems := by
    rw [tidy_mems_len]
    exact Nat.le_trans (kept_len c) (Nat.le_trans hc.mems (by decide))
  gates := by
    have h1 := (fr_all c).gl
    have h2 := sens_left_len c
    have h3 := hc.gates
    show (mkN c).gates.length ≤ 1000
    omega
  outs := by
    show (c.outs.map _).length ≤ 1000
    rw [List.length_map]
    exact Nat.le_trans hc.outs (by decide)
theorem hmath (c : Circ) (hc : COk c) : AlikeOk c (tidyN c) where
  cok := cokV hc
  dok := tidy_vok hc
  insE := rfl
  memsL := by
    rw [tidy_mems_len]
    exact kept_len c
  gatesL := nonB_all c
  turns := by
    refine ⟨fun s t => s.length = c.mems.length ∧ Bits s ∧ Agree c s ∧ t = keepS c s, ⟨?_, ?_, agree_first c, keep_first c⟩, ?_⟩
    · show (c.mems.map _).length = _
      rw [List.length_map]
    · intro b hb
      obtain ⟨m, hm, rfl⟩ := List.mem_map.mp (show b ∈ c.mems.map (·.1) from hb)
      exact (hc.mem m hm).1
    · rintro s t ins ⟨hs, hb, ha, rfl⟩ hi hib
      obtain ⟨h1, h2, h3⟩ := turn_alike hc hi hs hib hb ha
      have hv : Bits (valsN c s ins) := vals_bits c.gates (f := ins ++ s) (Bits.app hib hb)
      refine ⟨⟨cokV hc, hs, hi, hb, hib⟩, ⟨tidy_vok hc, ?_, hi, keep_bits hb, hib⟩, h1, ?_, ?_, h3, h2⟩
      · unfold keepS
        rw [List.length_map, tidy_mems_len]
      · show (c.mems.map _).length = _
        rw [List.length_map]
      · intro b hm
        obtain ⟨m, _, rfl⟩ := List.mem_map.mp (show b ∈ c.mems.map fun m => (valsN c s ins).getD m.2 0 from hm)
        exact bits_at hv m.2
end G
set_option Elab.async false
set_option linter.all false
set_option maxRecDepth 100000
set_option maxHeartbeats 0
namespace G
open PySem PySem.Spec PyProof.Rows L2 D M
theorem oks {P : Program} {w : World} {K : PySem.W.Frag} {h : Heap} {mg : Str → Option Value} {base : Heap} (X : K.In h) (G : h.Ns mainGlobals mg) (c : He.SaysD fa fn K) {f : Addr} {fd : FuncData} (F : FnP K "law" "law" s_law f fd) : FnOk P w K mg base CX0 12 f fd ["_law_script"] (sp_law K) := by
  obtain ⟨fd_number_of, F_number_of⟩ := c.def_ 0 (d := d_number_of) rfl
  obtain ⟨fd_figure, F_figure⟩ := c.def_ 1 (d := d_figure) rfl
  obtain ⟨fd_turned, F_turned⟩ := c.def_ 2 (d := d_turned) rfl
  obtain ⟨fd_widened, F_widened⟩ := c.def_ 3 (d := d_widened) rfl
  obtain ⟨fd_hangs, F_hangs⟩ := c.def_ 4 (d := d_hangs) rfl
  obtain ⟨fd_fixed, F_fixed⟩ := c.def_ 5 (d := d_fixed) rfl
  obtain ⟨fd_joined, F_joined⟩ := c.def_ 6 (d := d_joined) rfl
  obtain ⟨fd_flipped, F_flipped⟩ := c.def_ 7 (d := d_flipped) rfl
  obtain ⟨fd_row_by, F_row_by⟩ := c.def_ 8 (d := d_row_by) rfl
  obtain ⟨fd_ordered, F_ordered⟩ := c.def_ 9 (d := d_ordered) rfl
  obtain ⟨fd_first_gate, F_first_gate⟩ := c.def_ 10 (d := d_first_gate) rfl
  obtain ⟨fd_Making_init, F_Making_init⟩ := c.def_ 11 (d := d_Making_init) rfl
  obtain ⟨fd_Making_gate, F_Making_gate⟩ := c.def_ 12 (d := d_Making_gate) rfl
  obtain ⟨fd_Making_finished, F_Making_finished⟩ := c.def_ 13 (d := d_Making_finished) rfl
  obtain ⟨fd_unlike, F_unlike⟩ := c.def_ 14 (d := d_unlike) rfl
  obtain ⟨fd_hung_on, F_hung_on⟩ := c.def_ 15 (d := d_hung_on) rfl
  obtain ⟨fd_rising, F_rising⟩ := c.def_ 16 (d := d_rising) rfl
  obtain ⟨fd_Senses_init, F_Senses_init⟩ := c.def_ 17 (d := d_Senses_init) rfl
  obtain ⟨fd_Senses_is_not, F_Senses_is_not⟩ := c.def_ 18 (d := d_Senses_is_not) rfl
  obtain ⟨fd_Senses_read_through, F_Senses_read_through⟩ := c.def_ 19 (d := d_Senses_read_through) rfl
  obtain ⟨fd_Senses_is_gate_left, F_Senses_is_gate_left⟩ := c.def_ 20 (d := d_Senses_is_gate_left) rfl
  obtain ⟨fd_Senses_sense_of, F_Senses_sense_of⟩ := c.def_ 21 (d := d_Senses_sense_of) rfl
  obtain ⟨fd_parted_reading, F_parted_reading⟩ := c.def_ 22 (d := d_parted_reading) rfl
  obtain ⟨fd_widest, F_widest⟩ := c.def_ 23 (d := d_widest) rfl
  obtain ⟨fd_Sheet_init, F_Sheet_init⟩ := c.def_ 24 (d := d_Sheet_init) rfl
  obtain ⟨fd_Sheet_helper, F_Sheet_helper⟩ := c.def_ 25 (d := d_Sheet_helper) rfl
  obtain ⟨fd_Sheet_in_key, F_Sheet_in_key⟩ := c.def_ 26 (d := d_Sheet_in_key) rfl
  obtain ⟨fd_Sheet_hold, F_Sheet_hold⟩ := c.def_ 27 (d := d_Sheet_hold) rfl
  obtain ⟨fd_Sheet_step, F_Sheet_step⟩ := c.def_ 28 (d := d_Sheet_step) rfl
  obtain ⟨fd_Sheet_claim, F_Sheet_claim⟩ := c.def_ 29 (d := d_Sheet_claim) rfl
  obtain ⟨fd_Sheet_number, F_Sheet_number⟩ := c.def_ 30 (d := d_Sheet_number) rfl
  obtain ⟨fd_Sheet_numbered, F_Sheet_numbered⟩ := c.def_ 31 (d := d_Sheet_numbered) rfl
  obtain ⟨fd_Sheet_paper, F_Sheet_paper⟩ := c.def_ 32 (d := d_Sheet_paper) rfl
  obtain ⟨fd_asked_by, F_asked_by⟩ := c.def_ 33 (d := d_asked_by) rfl
  obtain ⟨fd_needed_senses, F_needed_senses⟩ := c.def_ 34 (d := d_needed_senses) rfl
  obtain ⟨fd_Tidying_init, F_Tidying_init⟩ := c.def_ 35 (d := d_Tidying_init) rfl
  obtain ⟨fd_Tidying_next_sense, F_Tidying_next_sense⟩ := c.def_ 36 (d := d_Tidying_next_sense) rfl
  obtain ⟨fd_Tidying_own_places, F_Tidying_own_places⟩ := c.def_ 37 (d := d_Tidying_own_places) rfl
  obtain ⟨fd_Tidying_made, F_Tidying_made⟩ := c.def_ 38 (d := d_Tidying_made) rfl
  obtain ⟨fd_Tidying_lay_spots, F_Tidying_lay_spots⟩ := c.def_ 39 (d := d_Tidying_lay_spots) rfl
  obtain ⟨fd_Tidying_tie, F_Tidying_tie⟩ := c.def_ 40 (d := d_Tidying_tie) rfl
  obtain ⟨fd_Tidying_hung_spot, F_Tidying_hung_spot⟩ := c.def_ 41 (d := d_Tidying_hung_spot) rfl
  obtain ⟨fd_Tidying_reckoned, F_Tidying_reckoned⟩ := c.def_ 42 (d := d_Tidying_reckoned) rfl
  obtain ⟨fd_Tidying_ties, F_Tidying_ties⟩ := c.def_ 43 (d := d_Tidying_ties) rfl
  obtain ⟨fd_Tidying_lay_lines, F_Tidying_lay_lines⟩ := c.def_ 44 (d := d_Tidying_lay_lines) rfl
  obtain ⟨fd_Tidying_lay_steps, F_Tidying_lay_steps⟩ := c.def_ 45 (d := d_Tidying_lay_steps) rfl
  obtain ⟨fd_Tidying_end, F_Tidying_end⟩ := c.def_ 46 (d := d_Tidying_end) rfl
  obtain ⟨fd_Tidying_paper, F_Tidying_paper⟩ := c.def_ 47 (d := d_Tidying_paper) rfl
  obtain ⟨fd_tidied, F_tidied⟩ := c.def_ 48 (d := d_tidied) rfl
  obtain ⟨fd__law_next, F__law_next⟩ := c.def_ 49 (d := d__law_next) rfl
  obtain ⟨fd__law_state, F__law_state⟩ := c.def_ 50 (d := d__law_state) rfl
  obtain ⟨fd__law_gate, F__law_gate⟩ := c.def_ 51 (d := d__law_gate) rfl
  obtain ⟨fd__law_circuit, F__law_circuit⟩ := c.def_ 52 (d := d__law_circuit) rfl
  obtain ⟨fd__law_copied, F__law_copied⟩ := c.def_ 53 (d := d__law_copied) rfl
  obtain ⟨fd__law_some, F__law_some⟩ := c.def_ 54 (d := d__law_some) rfl
  obtain ⟨fd__law_otherwise, F__law_otherwise⟩ := c.def_ 55 (d := d__law_otherwise) rfl
  obtain ⟨fd__law_values, F__law_values⟩ := c.def_ 56 (d := d__law_values) rfl
  obtain ⟨fd__law_turn, F__law_turn⟩ := c.def_ 57 (d := d__law_turn) rfl
  obtain ⟨fd__law_first, F__law_first⟩ := c.def_ 58 (d := d__law_first) rfl
  obtain ⟨fd__law_alike, F__law_alike⟩ := c.def_ 59 (d := d__law_alike) rfl
  have T : Fx mg := ⟨He.free_ok X G (c.fact 37 (f := .free "abs") rfl), He.free_ok X G (c.fact 38 (f := .free "enumerate") rfl), He.free_ok X G (c.fact 39 (f := .free "int") rfl), He.free_ok X G (c.fact 40 (f := .free "isinstance") rfl), He.free_ok X G (c.fact 41 (f := .free "len") rfl), He.free_ok X G (c.fact 42 (f := .free "list") rfl), He.free_ok X G (c.fact 43 (f := .free "min") rfl), He.free_ok X G (c.fact 44 (f := .free "range") rfl), He.free_ok X G (c.fact 45 (f := .free "reversed") rfl), He.free_ok X G (c.fact 46 (f := .free "sorted") rfl), He.free_ok X G (c.fact 47 (f := .free "tuple") rfl), He.free_ok X G (c.fact 48 (f := .free "zip") rfl), He.int_ok X G (c.fact 35 (f := .int "NOT" 1) rfl), He.int_ok X G (c.fact 36 (f := .int "SAME" 2) rfl)⟩
  have ks : KS K (He.ga K "Senses") := ⟨He.cls_ok (c.fact 57 (f := .cls "Senses") rfl), He.noat_ok (c.fact 59 (f := .noat "Senses" "told") rfl), He.noat_ok (c.fact 60 (f := .noat "Senses" "left") rfl), He.noat_ok (c.fact 61 (f := .noat "Senses" "known") rfl)⟩
  have kh : KSh K (He.ga K "Sheet") := ⟨He.cls_ok (c.fact 66 (f := .cls "Sheet") rfl), He.noat_ok (c.fact 68 (f := .noat "Sheet" "ins") rfl), He.noat_ok (c.fact 69 (f := .noat "Sheet" "helpers") rfl), He.noat_ok (c.fact 70 (f := .noat "Sheet" "kept") rfl), He.noat_ok (c.fact 71 (f := .noat "Sheet" "claims") rfl)⟩
  have km : KM K (He.ga K "Making") := ⟨He.cls_ok (c.fact 49 (f := .cls "Making") rfl), He.noat_ok (c.fact 51 (f := .noat "Making" "ins") rfl), He.noat_ok (c.fact 52 (f := .noat "Making" "begins") rfl), He.noat_ok (c.fact 53 (f := .noat "Making" "gates") rfl), He.noat_ok (c.fact 54 (f := .noat "Making" "steadies") rfl)⟩
  have kt : KT K (He.ga K "Tidying") := ⟨He.cls_ok (c.fact 80 (f := .cls "Tidying") rfl), He.noat_ok (c.fact 82 (f := .noat "Tidying" "circuit") rfl), He.noat_ok (c.fact 83 (f := .noat "Tidying" "senses") rfl), He.noat_ok (c.fact 84 (f := .noat "Tidying" "needed") rfl), He.noat_ok (c.fact 85 (f := .noat "Tidying" "sheet") rfl), He.noat_ok (c.fact 86 (f := .noat "Tidying" "fresh") rfl), He.noat_ok (c.fact 87 (f := .noat "Tidying" "spots") rfl), He.noat_ok (c.fact 88 (f := .noat "Tidying" "lines") rfl)⟩
  have c__law_first : Cal P w K mg base 1 "_law_first" ["_law_circuit_here"] sp__law_first := ⟨_, _, ok__law_first (k := 0) F__law_first T, He.glo_ok X G (c.fact 32 (f := .glo "_law_first") rfl), F__law_first.kp, F__law_first.bindsN fun _ _ _ _ _ _ us hl => match us, hl with | [_], _ => rfl⟩
  have c__law_next : Cal P w K mg base 1 "_law_next" ["_law_state_here", "_law_many"] sp__law_next := ⟨_, _, ok__law_next (k := 0) F__law_next T, He.glo_ok X G (c.fact 23 (f := .glo "_law_next") rfl), F__law_next.kp, F__law_next.bindsN fun _ _ _ _ _ _ us hl => match us, hl with | [_, _], _ => rfl⟩
  have c__law_values : Cal P w K mg base 1 "_law_values" ["_law_circuit_here", "_law_state_here", "_law_ins"] sp__law_values := ⟨_, _, ok__law_values (k := 0) F__law_values T, He.glo_ok X G (c.fact 30 (f := .glo "_law_values") rfl), F__law_values.kp, F__law_values.bindsN fun _ _ _ _ _ _ us hl => match us, hl with | [_, _, _], _ => rfl⟩
  have c__law_turn : Cal P w K mg base 2 "_law_turn" ["_law_circuit_here", "_law_state_here", "_law_ins"] sp__law_turn := ⟨_, _, ok__law_turn (k := 1) F__law_turn T c__law_values, He.glo_ok X G (c.fact 31 (f := .glo "_law_turn") rfl), F__law_turn.kp, F__law_turn.bindsN fun _ _ _ _ _ _ us hl => match us, hl with | [_, _, _], _ => rfl⟩
  have c__law_alike : Cal P w K mg base 3 "_law_alike" ["_law_state_here", "_law_circuit_here", "_law_lean", "_law_many"] sp__law_alike := ⟨_, _, ok__law_alike (k := 2) F__law_alike T (c__law_first.mono (by decide)) (c__law_next.mono (by decide)) c__law_turn, He.glo_ok X G (c.fact 33 (f := .glo "_law_alike") rfl), F__law_alike.kp, F__law_alike.bindsN fun _ _ _ _ _ _ us hl => match us, hl with | [_, _, _, _], _ => rfl⟩
  have c__law_gate : Cal P w K mg base 2 "_law_gate" ["_law_state_here", "_law_below"] sp__law_gate := ⟨_, _, ok__law_gate (k := 1) F__law_gate T c__law_next, He.glo_ok X G (c.fact 25 (f := .glo "_law_gate") rfl), F__law_gate.kp, F__law_gate.bindsN fun _ _ _ _ _ _ us hl => match us, hl with | [_, _], _ => rfl⟩
  have c__law_circuit : Cal P w K mg base 3 "_law_circuit" ["_law_state_here", "_law_most"] sp__law_circuit := ⟨_, _, ok__law_circuit (k := 2) F__law_circuit T c__law_gate (c__law_next.mono (by decide)), He.glo_ok X G (c.fact 26 (f := .glo "_law_circuit") rfl), F__law_circuit.kp, F__law_circuit.bindsN fun _ _ _ _ _ _ us hl => match us, hl with | [_, _], _ => rfl⟩
  have c__law_copied_0 : Cal P w K mg base 0 "_law_copied" ["_law_thing"] (sp__law_copied 0) := ⟨_, _, cp_none, He.glo_ok X G (c.fact 27 (f := .glo "_law_copied") rfl), F__law_copied.kp, F__law_copied.bindsN fun _ _ _ _ _ _ us hl => match us, hl with | [_], _ => rfl⟩
  have c__law_copied_1 : Cal P w K mg base 1 "_law_copied" ["_law_thing"] (sp__law_copied 1) := ⟨_, _, ok__law_copied (k := 0) F__law_copied T c__law_copied_0, He.glo_ok X G (c.fact 27 (f := .glo "_law_copied") rfl), F__law_copied.kp, F__law_copied.bindsN fun _ _ _ _ _ _ us hl => match us, hl with | [_], _ => rfl⟩
  have c__law_copied_2 : Cal P w K mg base 2 "_law_copied" ["_law_thing"] (sp__law_copied 2) := ⟨_, _, ok__law_copied (k := 1) F__law_copied T c__law_copied_1, He.glo_ok X G (c.fact 27 (f := .glo "_law_copied") rfl), F__law_copied.kp, F__law_copied.bindsN fun _ _ _ _ _ _ us hl => match us, hl with | [_], _ => rfl⟩
  have c__law_copied_3 : Cal P w K mg base 3 "_law_copied" ["_law_thing"] (sp__law_copied 3) := ⟨_, _, ok__law_copied (k := 2) F__law_copied T c__law_copied_2, He.glo_ok X G (c.fact 27 (f := .glo "_law_copied") rfl), F__law_copied.kp, F__law_copied.bindsN fun _ _ _ _ _ _ us hl => match us, hl with | [_], _ => rfl⟩
  have c__law_copied_4 : Cal P w K mg base 4 "_law_copied" ["_law_thing"] (sp__law_copied 4) := ⟨_, _, ok__law_copied (k := 3) F__law_copied T c__law_copied_3, He.glo_ok X G (c.fact 27 (f := .glo "_law_copied") rfl), F__law_copied.kp, F__law_copied.bindsN fun _ _ _ _ _ _ us hl => match us, hl with | [_], _ => rfl⟩
  have c__law_copied_5 : Cal P w K mg base 5 "_law_copied" ["_law_thing"] (sp__law_copied 5) := ⟨_, _, ok__law_copied (k := 4) F__law_copied T c__law_copied_4, He.glo_ok X G (c.fact 27 (f := .glo "_law_copied") rfl), F__law_copied.kp, F__law_copied.bindsN fun _ _ _ _ _ _ us hl => match us, hl with | [_], _ => rfl⟩
  have c__law_copied_6 : Cal P w K mg base 6 "_law_copied" ["_law_thing"] (sp__law_copied 6) := ⟨_, _, ok__law_copied (k := 5) F__law_copied T c__law_copied_5, He.glo_ok X G (c.fact 27 (f := .glo "_law_copied") rfl), F__law_copied.kp, F__law_copied.bindsN fun _ _ _ _ _ _ us hl => match us, hl with | [_], _ => rfl⟩
  have c__law_some : Cal P w K mg base 2 "_law_some" ["_law_state_here", "_law_row"] sp__law_some := ⟨_, _, ok__law_some (k := 1) F__law_some T c__law_next, He.glo_ok X G (c.fact 28 (f := .glo "_law_some") rfl), F__law_some.kp, F__law_some.bindsN fun _ _ _ _ _ _ us hl => match us, hl with | [_, _], _ => rfl⟩
  have c__law_otherwise : Cal P w K mg base 3 "_law_otherwise" ["_law_state_here", "_law_circuit_here", "_law_most"] sp__law_otherwise := ⟨_, _, ok__law_otherwise (k := 2) F__law_otherwise T (c__law_next.mono (by decide)) c__law_some, He.glo_ok X G (c.fact 29 (f := .glo "_law_otherwise") rfl), F__law_otherwise.kp, F__law_otherwise.bindsN fun _ _ _ _ _ _ us hl => match us, hl with | [_, _, _], _ => rfl⟩
  have c__law_state : Cal P w K mg base 1 "_law_state" ["_law_script"] (sp__law_state K) := ⟨_, _, ok__law_state (k := 0) F__law_state T, He.glo_ok X G (c.fact 24 (f := .glo "_law_state") rfl), F__law_state.kp, F__law_state.bindsN fun _ _ _ _ _ _ us hl => match us, hl with | [_], _ => rfl⟩
  have c_Senses_is_not : CalM P w K mg base 1 (He.ga K "Senses") "is_not" ["self", "place"] (sp_is_not P w (He.ga K "Senses")) := ⟨⟨_, _, ok_Senses_is_not (k := 0) F_Senses_is_not T ks, He.meth_ok (c.fact 62 (f := .meth "Senses" "is_not") rfl), F_Senses_is_not.bindsN fun _ _ _ _ _ _ us hl => match us, hl with | [_, _], _ => rfl⟩, He.cls_ok (c.fact 57 (f := .cls "Senses") rfl)⟩
  have c_figure : Cal P w K mg base 1 "figure" ["table", "row"] sp_figure := ⟨_, _, ok_figure (k := 0) F_figure T, He.glo_ok X G (c.fact 1 (f := .glo "figure") rfl), F_figure.kp, F_figure.bindsN fun _ _ _ _ _ _ us hl => match us, hl with | [_, _], _ => rfl⟩
  have c_number_of : Cal P w K mg base 1 "number_of" ["bits"] sp_number_of := ⟨_, _, ok_number_of (k := 0) F_number_of T, He.glo_ok X G (c.fact 0 (f := .glo "number_of") rfl), F_number_of.kp, F_number_of.bindsN fun _ _ _ _ _ _ us hl => match us, hl with | [_], _ => rfl⟩
  have c_widened : Cal P w K mg base 1 "widened" ["row", "k", "bit"] sp_widened := ⟨_, _, ok_widened (k := 0) F_widened T, He.glo_ok X G (c.fact 3 (f := .glo "widened") rfl), F_widened.kp, F_widened.bindsN fun _ _ _ _ _ _ us hl => match us, hl with | [_, _, _], _ => rfl⟩
  have c_fixed : Cal P w K mg base 2 "fixed" ["table", "many", "k", "bit"] sp_fixed := ⟨_, _, ok_fixed (k := 1) F_fixed T c_figure c_number_of c_widened, He.glo_ok X G (c.fact 5 (f := .glo "fixed") rfl), F_fixed.kp, F_fixed.bindsN fun _ _ _ _ _ _ us hl => match us, hl with | [_, _, _, _], _ => rfl⟩
  have c_turned : Cal P w K mg base 1 "turned" ["row", "k"] sp_turned := ⟨_, _, ok_turned (k := 0) F_turned T, He.glo_ok X G (c.fact 2 (f := .glo "turned") rfl), F_turned.kp, F_turned.bindsN fun _ _ _ _ _ _ us hl => match us, hl with | [_, _], _ => rfl⟩
  have c_flipped : Cal P w K mg base 2 "flipped" ["table", "many", "k"] sp_flipped := ⟨_, _, ok_flipped (k := 1) F_flipped T c_figure c_number_of c_turned, He.glo_ok X G (c.fact 7 (f := .glo "flipped") rfl), F_flipped.kp, F_flipped.bindsN fun _ _ _ _ _ _ us hl => match us, hl with | [_, _, _], _ => rfl⟩
  have c_Senses_read_through : CalM P w K mg base 3 (He.ga K "Senses") "read_through" ["self", "table", "senses"] (sp_read_through P w (He.ga K "Senses")) := ⟨⟨_, _, ok_Senses_read_through (k := 2) F_Senses_read_through T ks (c_Senses_is_not.mono (by decide)) c_fixed c_flipped, He.meth_ok (c.fact 63 (f := .meth "Senses" "read_through") rfl), F_Senses_read_through.bindsN fun _ _ _ _ _ _ us hl => match us, hl with | [_, _, _], _ => rfl⟩, He.cls_ok (c.fact 57 (f := .cls "Senses") rfl)⟩
  have c_hangs : Cal P w K mg base 2 "hangs" ["table", "many", "k"] sp_hangs := ⟨_, _, ok_hangs (k := 1) F_hangs T c_figure c_turned, He.glo_ok X G (c.fact 4 (f := .glo "hangs") rfl), F_hangs.kp, F_hangs.bindsN fun _ _ _ _ _ _ us hl => match us, hl with | [_, _, _], _ => rfl⟩
  have c_hung_on : Cal P w K mg base 3 "hung_on" ["table", "places"] sp_hung_on := ⟨_, _, ok_hung_on (k := 2) F_hung_on T c_fixed c_hangs, He.glo_ok X G (c.fact 13 (f := .glo "hung_on") rfl), F_hung_on.kp, F_hung_on.bindsN fun _ _ _ _ _ _ us hl => match us, hl with | [_, _], _ => rfl⟩
  have c_row_by : Cal P w K mg base 1 "row_by" ["row", "order"] sp_row_by := ⟨_, _, ok_row_by (k := 0) F_row_by T, He.glo_ok X G (c.fact 8 (f := .glo "row_by") rfl), F_row_by.kp, F_row_by.bindsN fun _ _ _ _ _ _ us hl => match us, hl with | [_, _], _ => rfl⟩
  have c_ordered : Cal P w K mg base 2 "ordered" ["table", "order"] sp_ordered := ⟨_, _, ok_ordered (k := 1) F_ordered T c_figure c_number_of c_row_by, He.glo_ok X G (c.fact 9 (f := .glo "ordered") rfl), F_ordered.kp, F_ordered.bindsN fun _ _ _ _ _ _ us hl => match us, hl with | [_, _], _ => rfl⟩
  have c_rising : Cal P w K mg base 3 "rising" ["table", "places"] sp_rising := ⟨_, _, ok_rising (k := 2) F_rising T c_ordered, He.glo_ok X G (c.fact 14 (f := .glo "rising") rfl), F_rising.kp, F_rising.bindsN fun _ _ _ _ _ _ us hl => match us, hl with | [_, _], _ => rfl⟩
  have c_joined : Cal P w K mg base 2 "joined" ["table", "many", "k", "j"] sp_joined := ⟨_, _, ok_joined (k := 1) F_joined T c_figure c_number_of c_widened, He.glo_ok X G (c.fact 6 (f := .glo "joined") rfl), F_joined.kp, F_joined.bindsN fun _ _ _ _ _ _ us hl => match us, hl with | [_, _, _, _], _ => rfl⟩
  have c_unlike : Cal P w K mg base 3 "unlike" ["table", "places"] sp_unlike := ⟨_, _, ok_unlike (k := 2) F_unlike T c_joined, He.glo_ok X G (c.fact 12 (f := .glo "unlike") rfl), F_unlike.kp, F_unlike.bindsN fun _ _ _ _ _ _ us hl => match us, hl with | [_, _], _ => rfl⟩
  have c_Senses_sense_of : CalM P w K mg base 4 (He.ga K "Senses") "sense_of" ["self", "table", "senses"] (sp_sense_of P w (He.ga K "Senses")) := ⟨⟨_, _, ok_Senses_sense_of (k := 3) F_Senses_sense_of T ks c_Senses_read_through c_hung_on c_rising c_unlike, He.meth_ok (c.fact 65 (f := .meth "Senses" "sense_of") rfl), F_Senses_sense_of.bindsN fun _ _ _ _ _ _ us hl => match us, hl with | [_, _, _], _ => rfl⟩, He.cls_ok (c.fact 57 (f := .cls "Senses") rfl)⟩
  have o_Senses_init : FnOk P w K mg base CX0 5 (He.ma K (He.ga K "Senses") "__init__") fd_Senses_init ["self", "circuit", "reading"] (sp_Senses_init P w (He.ga K "Senses")) := ok_Senses_init (k := 4) F_Senses_init T ks c_Senses_sense_of
  have C_Senses : CalC P w K mg base 6 (He.ga K "Senses") "Senses" ["self", "circuit", "reading"] (sp_Senses_init P w (He.ga K "Senses")) := ⟨_, _, 5, rfl, o_Senses_init, He.mkr_ok (c.fact 58 (f := .mkr "Senses") rfl), He.glo_ok X G (c.fact 15 (f := .glo "Senses") rfl), F_Senses_init.bindsN fun _ _ _ _ _ _ us hl => match us, hl with | [_, _, _], _ => rfl⟩
  have o_Sheet_init : FnOk P w K mg base CX0 1 (He.ma K (He.ga K "Sheet") "__init__") fd_Sheet_init ["self", "ins"] (sp_Sheet_init (He.ga K "Sheet")) := ok_Sheet_init (k := 0) F_Sheet_init T kh
  have C_Sheet : CalC P w K mg base 2 (He.ga K "Sheet") "Sheet" ["self", "ins"] (sp_Sheet_init (He.ga K "Sheet")) := ⟨_, _, 1, rfl, o_Sheet_init, He.mkr_ok (c.fact 67 (f := .mkr "Sheet") rfl), He.glo_ok X G (c.fact 18 (f := .glo "Sheet") rfl), F_Sheet_init.bindsN fun _ _ _ _ _ _ us hl => match us, hl with | [_, _], _ => rfl⟩
  have c_first_gate : Cal P w K mg base 1 "first_gate" ["circuit"] sp_first_gate := ⟨_, _, ok_first_gate (k := 0) F_first_gate T, He.glo_ok X G (c.fact 10 (f := .glo "first_gate") rfl), F_first_gate.kp, F_first_gate.bindsN fun _ _ _ _ _ _ us hl => match us, hl with | [_], _ => rfl⟩
  have c_asked_by : Cal P w K mg base 2 "asked_by" ["circuit", "senses", "sense"] (sp_asked_by P w (He.ga K "Senses")) := ⟨_, _, ok_asked_by (k := 1) F_asked_by T ks c_first_gate, He.glo_ok X G (c.fact 19 (f := .glo "asked_by") rfl), F_asked_by.kp, F_asked_by.bindsN fun _ _ _ _ _ _ us hl => match us, hl with | [_, _, _], _ => rfl⟩
  have c_needed_senses : Cal P w K mg base 3 "needed_senses" ["circuit", "senses"] (sp_needed_senses P w (He.ga K "Senses")) := ⟨_, _, ok_needed_senses (k := 2) F_needed_senses T ks c_asked_by, He.glo_ok X G (c.fact 20 (f := .glo "needed_senses") rfl), F_needed_senses.kp, F_needed_senses.bindsN fun _ _ _ _ _ _ us hl => match us, hl with | [_, _], _ => rfl⟩
  have c_parted_reading : Cal P w K mg base 7 "parted_reading" ["circuit", "told"] sp_parted_reading := ⟨_, _, ok_parted_reading (k := 6) F_parted_reading T ks C_Senses, He.glo_ok X G (c.fact 16 (f := .glo "parted_reading") rfl), F_parted_reading.kp, F_parted_reading.bindsN fun _ _ _ _ _ _ us hl => match us, hl with | [_, _], _ => rfl⟩
  have c_widest : Cal P w K mg base 8 "widest" ["circuit"] sp_widest := ⟨_, _, ok_widest (k := 7) F_widest T c_parted_reading, He.glo_ok X G (c.fact 17 (f := .glo "widest") rfl), F_widest.kp, F_widest.bindsN fun _ _ _ _ _ _ us hl => match us, hl with | [_], _ => rfl⟩
  have o_Tidying_init : FnOk P w K mg base CX0 9 (He.ma K (He.ga K "Tidying") "__init__") fd_Tidying_init ["self", "circuit"] (sp_Tidying_init P w (He.ga K "Tidying") (He.ga K "Senses") (He.ga K "Sheet")) := ok_Tidying_init (k := 8) F_Tidying_init T kt ks (C_Senses.mono (by decide)) (C_Sheet.mono (by decide)) (c_needed_senses.mono (by decide)) c_widest
  have C_Tidying : CalC P w K mg base 10 (He.ga K "Tidying") "Tidying" ["self", "circuit"] (sp_Tidying_init P w (He.ga K "Tidying") (He.ga K "Senses") (He.ga K "Sheet")) := ⟨_, _, 9, rfl, o_Tidying_init, He.mkr_ok (c.fact 81 (f := .mkr "Tidying") rfl), He.glo_ok X G (c.fact 21 (f := .glo "Tidying") rfl), F_Tidying_init.bindsN fun _ _ _ _ _ _ us hl => match us, hl with | [_, _], _ => rfl⟩
  have o_Making_init : FnOk P w K mg base CX0 1 (He.ma K (He.ga K "Making") "__init__") fd_Making_init ["self", "ins", "begins"] (sp_Making_init (He.ga K "Making")) := ok_Making_init (k := 0) F_Making_init T km
  have C_Making : CalC P w K mg base 2 (He.ga K "Making") "Making" ["self", "ins", "begins"] (sp_Making_init (He.ga K "Making")) := ⟨_, _, 1, rfl, o_Making_init, He.mkr_ok (c.fact 50 (f := .mkr "Making") rfl), He.glo_ok X G (c.fact 11 (f := .glo "Making") rfl), F_Making_init.bindsN fun _ _ _ _ _ _ us hl => match us, hl with | [_, _, _], _ => rfl⟩
  have c_Making_finished : CalM P w K mg base 1 (He.ga K "Making") "finished" ["self", "nexts", "outs"] (sp_Making_finished (He.ga K "Making")) := ⟨⟨_, _, ok_Making_finished (k := 0) F_Making_finished T km, He.meth_ok (c.fact 56 (f := .meth "Making" "finished") rfl), F_Making_finished.bindsN fun _ _ _ _ _ _ us hl => match us, hl with | [_, _, _], _ => rfl⟩, He.cls_ok (c.fact 49 (f := .cls "Making") rfl)⟩
  have c_Making_gate : CalM P w K mg base 1 (He.ga K "Making") "gate" ["self", "table", "places"] (sp_Making_gate (He.ga K "Making")) := ⟨⟨_, _, ok_Making_gate (k := 0) F_Making_gate T km, He.meth_ok (c.fact 55 (f := .meth "Making" "gate") rfl), F_Making_gate.bindsN fun _ _ _ _ _ _ us hl => match us, hl with | [_, _, _], _ => rfl⟩, He.cls_ok (c.fact 49 (f := .cls "Making") rfl)⟩
  have c_Tidying_next_sense : CalM P w K mg base 1 (He.ga K "Tidying") "next_sense" ["self", "place"] (sp_Tidying_next_sense P w (He.ga K "Tidying") (He.ga K "Senses")) := ⟨⟨_, _, ok_Tidying_next_sense (k := 0) F_Tidying_next_sense T kt ks, He.meth_ok (c.fact 89 (f := .meth "Tidying" "next_sense") rfl), F_Tidying_next_sense.bindsN fun _ _ _ _ _ _ us hl => match us, hl with | [_, _], _ => rfl⟩, He.cls_ok (c.fact 80 (f := .cls "Tidying") rfl)⟩
  have c_Tidying_own_places : CalM P w K mg base 2 (He.ga K "Tidying") "own_places" ["self"] (sp_Tidying_own_places P w (He.ga K "Tidying") (He.ga K "Senses")) := ⟨⟨_, _, ok_Tidying_own_places (k := 1) F_Tidying_own_places T kt ks c_first_gate, He.meth_ok (c.fact 90 (f := .meth "Tidying" "own_places") rfl), F_Tidying_own_places.bindsN fun _ _ _ _ _ _ us hl => match us, hl with | [_], _ => rfl⟩, He.cls_ok (c.fact 80 (f := .cls "Tidying") rfl)⟩
  have c_Tidying_made : CalM P w K mg base 3 (He.ga K "Tidying") "made" ["self"] (sp_Tidying_made P w (He.ga K "Tidying") (He.ga K "Senses") (He.ga K "Sheet")) := ⟨⟨_, _, ok_Tidying_made (k := 2) F_Tidying_made T kt ks C_Making (c_Making_finished.mono (by decide)) (c_Making_gate.mono (by decide)) (c_Tidying_next_sense.mono (by decide)) c_Tidying_own_places, He.meth_ok (c.fact 91 (f := .meth "Tidying" "made") rfl), F_Tidying_made.bindsN fun _ _ _ _ _ _ us hl => match us, hl with | [_], _ => rfl⟩, He.cls_ok (c.fact 80 (f := .cls "Tidying") rfl)⟩
  have c_Sheet_number : CalM P w K mg base 1 (He.ga K "Sheet") "number" ["self", "thing"] (sp_Sheet_number (He.ga K "Sheet")) := ⟨⟨_, _, ok_Sheet_number (k := 0) F_Sheet_number T kh, He.meth_ok (c.fact 77 (f := .meth "Sheet" "number") rfl), F_Sheet_number.bindsN fun _ _ _ _ _ _ us hl => match us, hl with | [_, _], _ => rfl⟩, He.cls_ok (c.fact 66 (f := .cls "Sheet") rfl)⟩
  have c_Sheet_numbered : CalM P w K mg base 2 (He.ga K "Sheet") "numbered" ["self", "row"] (sp_Sheet_numbered (He.ga K "Sheet")) := ⟨⟨_, _, ok_Sheet_numbered (k := 1) F_Sheet_numbered T kh c_Sheet_number, He.meth_ok (c.fact 78 (f := .meth "Sheet" "numbered") rfl), F_Sheet_numbered.bindsN fun _ _ _ _ _ _ us hl => match us, hl with | [_, _], _ => rfl⟩, He.cls_ok (c.fact 66 (f := .cls "Sheet") rfl)⟩
  have c_Sheet_paper : CalM P w K mg base 3 (He.ga K "Sheet") "paper" ["self", "ends"] (sp_Sheet_paper (He.ga K "Sheet")) := ⟨⟨_, _, ok_Sheet_paper (k := 2) F_Sheet_paper T kh (c_Sheet_number.mono (by decide)) c_Sheet_numbered, He.meth_ok (c.fact 79 (f := .meth "Sheet" "paper") rfl), F_Sheet_paper.bindsN fun _ _ _ _ _ _ us hl => match us, hl with | [_, _], _ => rfl⟩, He.cls_ok (c.fact 66 (f := .cls "Sheet") rfl)⟩
  have c_Sheet_claim : CalM P w K mg base 1 (He.ga K "Sheet") "claim" ["self", "one", "other", "free", "given"] (sp_Sheet_claim (He.ga K "Sheet")) := ⟨⟨_, _, ok_Sheet_claim (k := 0) F_Sheet_claim T kh, He.meth_ok (c.fact 76 (f := .meth "Sheet" "claim") rfl), F_Sheet_claim.bindsN fun _ _ _ _ _ _ us hl => match us, hl with | [_, _, _, _, _], _ => rfl⟩, He.cls_ok (c.fact 66 (f := .cls "Sheet") rfl)⟩
  have c_Tidying_end : CalM P w K mg base 2 (He.ga K "Tidying") "end" ["self", "place"] (sp_Tidying_end P w (He.ga K "Tidying") (He.ga K "Senses") (He.ga K "Sheet")) := ⟨⟨_, _, ok_Tidying_end (k := 1) F_Tidying_end T kt ks c_Sheet_claim, He.meth_ok (c.fact 99 (f := .meth "Tidying" "end") rfl), F_Tidying_end.bindsN fun _ _ _ _ _ _ us hl => match us, hl with | [_, _], _ => rfl⟩, He.cls_ok (c.fact 80 (f := .cls "Tidying") rfl)⟩
  have c_Sheet_hold : CalM P w K mg base 1 (He.ga K "Sheet") "hold" ["self", "one", "other"] (sp_Sheet_hold (He.ga K "Sheet")) := ⟨⟨_, _, ok_Sheet_hold (k := 0) F_Sheet_hold T kh, He.meth_ok (c.fact 74 (f := .meth "Sheet" "hold") rfl), F_Sheet_hold.bindsN fun _ _ _ _ _ _ us hl => match us, hl with | [_, _, _], _ => rfl⟩, He.cls_ok (c.fact 66 (f := .cls "Sheet") rfl)⟩
  have c_Sheet_in_key : CalM P w K mg base 1 (He.ga K "Sheet") "in_key" ["self", "place"] sp_Sheet_in_key := ⟨⟨_, _, ok_Sheet_in_key (k := 0) F_Sheet_in_key T kh, He.meth_ok (c.fact 73 (f := .meth "Sheet" "in_key") rfl), F_Sheet_in_key.bindsN fun _ _ _ _ _ _ us hl => match us, hl with | [_, _], _ => rfl⟩, He.cls_ok (c.fact 66 (f := .cls "Sheet") rfl)⟩
  have c_Senses_is_gate_left : CalM P w K mg base 4 (He.ga K "Senses") "is_gate_left" ["self", "table", "senses"] (sp_is_gate_left P w (He.ga K "Senses")) := ⟨⟨_, _, ok_Senses_is_gate_left (k := 3) F_Senses_is_gate_left T ks c_Senses_read_through c_hung_on c_unlike, He.meth_ok (c.fact 64 (f := .meth "Senses" "is_gate_left") rfl), F_Senses_is_gate_left.bindsN fun _ _ _ _ _ _ us hl => match us, hl with | [_, _, _], _ => rfl⟩, He.cls_ok (c.fact 57 (f := .cls "Senses") rfl)⟩
  have c_Tidying_reckoned : CalM P w K mg base 5 (He.ga K "Tidying") "reckoned" ["self", "place"] (sp_Tidying_reckoned P w (He.ga K "Tidying") (He.ga K "Senses")) := ⟨⟨_, _, ok_Tidying_reckoned (k := 4) F_Tidying_reckoned T kt ks c_Senses_is_gate_left (c_first_gate.mono (by decide)), He.meth_ok (c.fact 95 (f := .meth "Tidying" "reckoned") rfl), F_Tidying_reckoned.bindsN fun _ _ _ _ _ _ us hl => match us, hl with | [_, _], _ => rfl⟩, He.cls_ok (c.fact 80 (f := .cls "Tidying") rfl)⟩
  have c_Tidying_hung_spot : CalM P w K mg base 2 (He.ga K "Tidying") "hung_spot" ["self", "place"] (sp_Tidying_hung_spot P w (He.ga K "Tidying") (He.ga K "Senses")) := ⟨⟨_, _, ok_Tidying_hung_spot (k := 1) F_Tidying_hung_spot T kt ks c_Senses_is_not, He.meth_ok (c.fact 94 (f := .meth "Tidying" "hung_spot") rfl), F_Tidying_hung_spot.bindsN fun _ _ _ _ _ _ us hl => match us, hl with | [_, _], _ => rfl⟩, He.cls_ok (c.fact 80 (f := .cls "Tidying") rfl)⟩
  have c_Tidying_tie : CalM P w K mg base 2 (He.ga K "Tidying") "tie" ["self", "place"] (sp_Tidying_tie P w (He.ga K "Tidying") (He.ga K "Senses")) := ⟨⟨_, _, ok_Tidying_tie (k := 1) F_Tidying_tie T kt ks c_Senses_is_not, He.meth_ok (c.fact 93 (f := .meth "Tidying" "tie") rfl), F_Tidying_tie.bindsN fun _ _ _ _ _ _ us hl => match us, hl with | [_, _], _ => rfl⟩, He.cls_ok (c.fact 80 (f := .cls "Tidying") rfl)⟩
  have c_Tidying_ties : CalM P w K mg base 3 (He.ga K "Tidying") "ties" ["self", "places", "shown"] (sp_Tidying_ties P w (He.ga K "Tidying") (He.ga K "Senses")) := ⟨⟨_, _, ok_Tidying_ties (k := 2) F_Tidying_ties T kt ks c_Tidying_hung_spot c_Tidying_tie, He.meth_ok (c.fact 96 (f := .meth "Tidying" "ties") rfl), F_Tidying_ties.bindsN fun _ _ _ _ _ _ us hl => match us, hl with | [_, _, _], _ => rfl⟩, He.cls_ok (c.fact 80 (f := .cls "Tidying") rfl)⟩
  have c_Tidying_lay_lines : CalM P w K mg base 6 (He.ga K "Tidying") "lay_lines" ["self"] (sp_Tidying_lay_lines P w (He.ga K "Tidying") (He.ga K "Senses") (He.ga K "Sheet")) := ⟨⟨_, _, ok_Tidying_lay_lines (k := 5) F_Tidying_lay_lines T kt ks (c_Sheet_claim.mono (by decide)) (c_Sheet_hold.mono (by decide)) (c_Sheet_in_key.mono (by decide)) c_Tidying_reckoned (c_Tidying_ties.mono (by decide)) (c_first_gate.mono (by decide)), He.meth_ok (c.fact 97 (f := .meth "Tidying" "lay_lines") rfl), F_Tidying_lay_lines.bindsN fun _ _ _ _ _ _ us hl => match us, hl with | [_], _ => rfl⟩, He.cls_ok (c.fact 80 (f := .cls "Tidying") rfl)⟩
  have c_Sheet_helper : CalM P w K mg base 1 (He.ga K "Sheet") "helper" ["self", "table", "spots"] (sp_Sheet_helper (He.ga K "Sheet")) := ⟨⟨_, _, ok_Sheet_helper (k := 0) F_Sheet_helper T kh, He.meth_ok (c.fact 72 (f := .meth "Sheet" "helper") rfl), F_Sheet_helper.bindsN fun _ _ _ _ _ _ us hl => match us, hl with | [_, _, _], _ => rfl⟩, He.cls_ok (c.fact 66 (f := .cls "Sheet") rfl)⟩
  have c_Tidying_lay_spots : CalM P w K mg base 3 (He.ga K "Tidying") "lay_spots" ["self"] (sp_Tidying_lay_spots P w (He.ga K "Tidying") (He.ga K "Senses") (He.ga K "Sheet")) := ⟨⟨_, _, ok_Tidying_lay_spots (k := 2) F_Tidying_lay_spots T kt ks (c_Sheet_helper.mono (by decide)) c_Tidying_own_places, He.meth_ok (c.fact 92 (f := .meth "Tidying" "lay_spots") rfl), F_Tidying_lay_spots.bindsN fun _ _ _ _ _ _ us hl => match us, hl with | [_], _ => rfl⟩, He.cls_ok (c.fact 80 (f := .cls "Tidying") rfl)⟩
  have c_Sheet_step : CalM P w K mg base 1 (He.ga K "Sheet") "step" ["self", "key", "free", "given"] (sp_Sheet_step (He.ga K "Sheet")) := ⟨⟨_, _, ok_Sheet_step (k := 0) F_Sheet_step T kh, He.meth_ok (c.fact 75 (f := .meth "Sheet" "step") rfl), F_Sheet_step.bindsN fun _ _ _ _ _ _ us hl => match us, hl with | [_, _, _, _], _ => rfl⟩, He.cls_ok (c.fact 66 (f := .cls "Sheet") rfl)⟩
  have c_Tidying_lay_steps : CalM P w K mg base 4 (He.ga K "Tidying") "lay_steps" ["self"] (sp_Tidying_lay_steps P w (He.ga K "Tidying") (He.ga K "Senses") (He.ga K "Sheet")) := ⟨⟨_, _, ok_Tidying_lay_steps (k := 3) F_Tidying_lay_steps T kt ks (c_Sheet_step.mono (by decide)) c_Tidying_ties, He.meth_ok (c.fact 98 (f := .meth "Tidying" "lay_steps") rfl), F_Tidying_lay_steps.bindsN fun _ _ _ _ _ _ us hl => match us, hl with | [_], _ => rfl⟩, He.cls_ok (c.fact 80 (f := .cls "Tidying") rfl)⟩
  have c_Tidying_paper : CalM P w K mg base 7 (He.ga K "Tidying") "paper" ["self"] (sp_Tidying_paper P w (He.ga K "Tidying") (He.ga K "Senses") (He.ga K "Sheet")) := ⟨⟨_, _, ok_Tidying_paper (k := 6) F_Tidying_paper T kt ks (c_Sheet_paper.mono (by decide)) (c_Tidying_end.mono (by decide)) c_Tidying_lay_lines (c_Tidying_lay_spots.mono (by decide)) (c_Tidying_lay_steps.mono (by decide)), He.meth_ok (c.fact 100 (f := .meth "Tidying" "paper") rfl), F_Tidying_paper.bindsN fun _ _ _ _ _ _ us hl => match us, hl with | [_], _ => rfl⟩, He.cls_ok (c.fact 80 (f := .cls "Tidying") rfl)⟩
  have c_tidied : Cal P w K mg base 11 "tidied" ["circuit"] sp_tidied := ⟨_, _, ok_tidied (k := 10) F_tidied T kt C_Tidying (c_Tidying_made.mono (by decide)) (c_Tidying_paper.mono (by decide)), He.glo_ok X G (c.fact 22 (f := .glo "tidied") rfl), F_tidied.kp, F_tidied.bindsN fun _ _ _ _ _ _ us hl => match us, hl with | [_], _ => rfl⟩
  exact ok_law (k := 11) F T hmath (c__law_alike.mono (by decide)) (c__law_circuit.mono (by decide)) (c__law_copied_6.mono (by decide)) (c__law_next.mono (by decide)) (c__law_otherwise.mono (by decide)) (c__law_state.mono (by decide)) c_tidied
theorem facts {P : Program} {w : World} {K : PySem.W.Frag} {h : Heap} {mg : Str → Option Value} {f : Addr} (X : K.In h) (G : h.Ns mainGlobals mg) (hfa : mg ("law" : Str) = some (.ref f)) (c : He.SaysD fa fn K) :
    ∃ fd : FuncData, (∀ (s : Shared) (v : Value), BindsTo s fd ⟨[v], []⟩ [("_law_script", v)]) ∧ ∀ base : Heap, K.In base → base.Ns mainGlobals mg → FnOk P w K mg base CX0 12 f fd ["_law_script"] (sp_law K) := by
  obtain ⟨fd, F⟩ := c.def_ 60 (d := d_law) rfl
  have e := hfa.symm.trans (He.glo_ok X G (c.fact 34 (f := .glo "law") rfl))
  cases e
  have b := FunD.bindsA (ps := ["_law_script"]) F fun _ _ _ _ _ _ us hl => match us, hl with | [_], _ => rfl
  exact ⟨fd, fun s v => b s [v] rfl, fun base _ _ => oks X G c F⟩
theorem law_true {K : PySem.W.Frag} {H : Hp} {a : Addr} {ns : List Int} (hl : ns.length ≤ 63) (hS : SqL K H a (ns.map V.int)) : sp_law K [.ref a] H (fun v _ => v = .bl true) fun _ _ _ => False := by
  refine ⟨⟨a, ns⟩, fun _ => none, fun _ _ z => (nomatch z), .cons rfl .nil, ⟨hS, hl⟩, ?_, ?_⟩
  · exact ⟨fun x z => (nomatch z), .nil⟩
  · rintro v r cs S' H' ⟨rfl, _⟩ _ _ _ _ _ _ hr
    have hr : Dq S' v (.bool true) := hr
    cases v <;> first | exact hr | (exact congrArg V.bl hr) | (cases hr <;> rfl)
end G
open PySem PySem.W PySem.Calls PyProof.Rows
theorem PySem.Challenge.cw_gatepapers_k67_whole_tidied_runs_alike_holds : PySem.Challenge.rw_gatepapers_k67_whole_tidied_runs_alike.Holds := by
  w_on; o_law
  refine HandSHeadRun.head_any (r := OpenLaw.row PySem.Challenge.rw_gatepapers_k67_whole_tidied_runs_alike) (q := view (OpenLaw.row PySem.Challenge.rw_gatepapers_k67_whole_tidied_runs_alike).prog [45]) (H := G.hk) (ob := G.ob) (M := 4000) (loose := G.names) (d := HandSHeadRun.topDef (OpenLaw.row PySem.Challenge.rw_gatepapers_k67_whole_tidied_runs_alike).prog 45) (kwd := []) G.ob_eq
    (by kernel_rfl) (fun s => by kernel_rfl) G.run (by kernel_rfl) (by kernel_rfl) (by kernel_rfl) (by rfl) (by first | assumption | decide +kernel) (by decide +kernel) ⟨rfl, rfl, rfl, rfl, rfl, by decide +kernel⟩ ?hw ?hc
  case hw => w_witness2
  case hc =>
    refine L2.walk_ofE (l := PySem.Challenge.rw_gatepapers_k67_whole_tidied_runs_alike) (n := 63) (k := 12) (x := "_law_script") (CX := L2.CX0) rfl (by decide) (by kernel_rfl) ⟨rfl, by decide, by decide⟩ ?F (fun _ _ _ _ z => z)
    intro w mg fa h Y G0 hmg0
    obtain ⟨K, KX, c⟩ := Y
    have hmg : mg ("law" : PySem.Str) = some (.ref fa) := by
      have e : (HandSHeadRun.topDef (OpenLaw.row PySem.Challenge.rw_gatepapers_k67_whole_tidied_runs_alike).prog 45).name = ("law" : PySem.Str) := by kernel_rfl
      rw [← e]
      exact hmg0
    obtain ⟨fd, hb, hF⟩ := G.facts (P := (PySem.Challenge.rw_gatepapers_k67_whole_tidied_runs_alike).prog) (w := w) KX G0 hmg c
    exact ⟨K, fd, G.sp_law K, KX, hb, fun H a ns hl _ hS => G.law_true hl hS, hF⟩
