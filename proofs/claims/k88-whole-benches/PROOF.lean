import PyProof.Rows.All
import Wide.All
import OpenK.AllK
import Wide.FinOn
import KE.KStateDown
import HandS.ForMost
import HandS.HeadHook1
import HandS.HeadHook2
import HandS.HeadHook4
import HandS.Head0
import HandS.Head1
import HandS.Head2
import HandS.ForExc
import HandS.Star
import HandS.ClsMeth
import HandS.Property
import HandS.More
import HandS.IsInst
import HandS.SlotsOwn
import KE.KOpsOwn
import HandS.Finally
import HandS.Lambda
import PyProof.AssignAttr
import PyProof.InstEq
import HandS.ExcInit
import HandS.Nested
import KE.KSuper
import KE.KExcSuper
import HandS.ExcField
import HandS.ExcIs
import HandS.RaiseMore
import PyProof.ReprRoads
import PyProof.ReprLen
import PyProof.Rows.StrDigits
import PyProof.Draws
import PyProof.EnumMake
import PyProof.TupleIter
import HandS.TupMul
import HandS.Defaults
import HandS.Codes
import HandS.NoneIn
import HandS.Style
import HandS.WordsExc
import KE.KLam
import HandS.EndTab
import KE.KNestM
import HandS.EndBits
import PySem.Challenge.RW_restchains_k88_whole_benches_by_single_b
set_option Elab.async false
set_option linter.all false
set_option maxRecDepth 100000
set_option maxHeartbeats 4000000
section
/-! The text: the defs that the law reaches, their names by slot. -/
namespace Tx
open PySem PySem.Spec PyProof.Rows L2
def topS (i : Nat) : Stmt := (PySem.Challenge.pw_restchains_k88_whole_benches_by_single_b).main.body.getD i (.Pass ⟨0, 0, 0, 0⟩)
def clsS (i j : Nat) : Stmt := match topS i with
  | .ClassDef _ _ _ b _ _ _ _ _ _ _ => b.getD j (.Pass ⟨0, 0, 0, 0⟩)
  | _ => .Pass ⟨0, 0, 0, 0⟩
abbrev s_is_integer : Stmt := topS 4
abbrev N_is_integer : List Str := ["value"]
theorem sc_is_integer : FnScope N_is_integer ["value"] (defScope s_is_integer) := ⟨rfl, rfl, rfl, by decide +kernel, rfl, by decide +kernel, by decide +kernel⟩
abbrev s_is_between : Stmt := topS 5
abbrev N_is_between : List Str := ["value", "low", "high"]
theorem sc_is_between : FnScope N_is_between ["value", "low", "high"] (defScope s_is_between) := ⟨rfl, rfl, rfl, by decide +kernel, rfl, by decide +kernel, by decide +kernel⟩
abbrev s_fits_modulus : Stmt := topS 6
abbrev N_fits_modulus : List Str := ["value"]
theorem sc_fits_modulus : FnScope N_fits_modulus ["value"] (defScope s_fits_modulus) := ⟨rfl, rfl, rfl, by decide +kernel, rfl, by decide +kernel, by decide +kernel⟩
abbrev s_is_row : Stmt := topS 7
abbrev N_is_row : List Str := ["value"]
theorem sc_is_row : FnScope N_is_row ["value"] (defScope s_is_row) := ⟨rfl, rfl, rfl, by decide +kernel, rfl, by decide +kernel, by decide +kernel⟩
abbrev s_first_odd : Stmt := topS 8
abbrev N_first_odd : List Str := ["values", "low", "high", "at", "value"]
theorem sc_first_odd : FnScope N_first_odd ["values", "low", "high"] (defScope s_first_odd) := ⟨rfl, rfl, rfl, by decide +kernel, rfl, by decide +kernel, by decide +kernel⟩
abbrev s_Chain___init__ : Stmt := clsS 33 2
abbrev N_Chain___init__ : List Str := ["self", "stages", "modulus"]
theorem sc_Chain___init__ : FnScope N_Chain___init__ ["self", "stages", "modulus"] (defScope s_Chain___init__) := ⟨rfl, rfl, rfl, by decide +kernel, rfl, by decide +kernel, by decide +kernel⟩
abbrev s_Chain_need_fit : Stmt := clsS 33 4
abbrev N_Chain_need_fit : List Str := ["self", "rests", "number", "at"]
theorem sc_Chain_need_fit : FnScope N_Chain_need_fit ["self", "rests", "number"] (defScope s_Chain_need_fit) := ⟨rfl, rfl, rfl, by decide +kernel, rfl, by decide +kernel, by decide +kernel⟩
abbrev s_Chain_handed : Stmt := clsS 33 5
abbrev N_Chain_handed : List Str := ["self", "old", "new"]
theorem sc_Chain_handed : FnScope N_Chain_handed ["self", "old", "new"] (defScope s_Chain_handed) := ⟨rfl, rfl, rfl, by decide +kernel, rfl, by decide +kernel, by decide +kernel⟩
abbrev s_Chain_step : Stmt := clsS 33 6
abbrev N_Chain_step : List Str := ["self", "rests", "number"]
theorem sc_Chain_step : FnScope N_Chain_step ["self", "rests", "number"] (defScope s_Chain_step) := ⟨rfl, rfl, rfl, by decide +kernel, rfl, by decide +kernel, by decide +kernel⟩
abbrev s_Late_handed : Stmt := clsS 35 1
abbrev N_Late_handed : List Str := ["self", "old", "new"]
theorem sc_Late_handed : FnScope N_Late_handed ["self", "old", "new"] (defScope s_Late_handed) := ⟨rfl, rfl, rfl, by decide +kernel, rfl, by decide +kernel, by decide +kernel⟩
abbrev s_beat_of : Stmt := topS 36
abbrev N_beat_of : List Str := ["chain", "rests", "number", "found", "carries", "given", "rest", "carry"]
theorem sc_beat_of : FnScope N_beat_of ["chain", "rests", "number"] (defScope s_beat_of) := ⟨rfl, rfl, rfl, by decide +kernel, rfl, by decide +kernel, by decide +kernel⟩
abbrev s_shortest_of : Stmt := topS 41
abbrev N_shortest_of : List Str := ["numbers", "many", "length", "at"]
theorem sc_shortest_of : FnScope N_shortest_of ["numbers"] (defScope s_shortest_of) := ⟨rfl, rfl, rfl, by decide +kernel, rfl, by decide +kernel, by decide +kernel⟩
abbrev s_Cycle___init__ : Stmt := clsS 42 1
abbrev N_Cycle___init__ : List Str := ["self", "numbers", "at"]
theorem sc_Cycle___init__ : FnScope N_Cycle___init__ ["self", "numbers"] (defScope s_Cycle___init__) := ⟨rfl, rfl, rfl, by decide +kernel, rfl, by decide +kernel, by decide +kernel⟩
abbrev s_Cycle_of : Stmt := clsS 42 2
abbrev N_Cycle_of : List Str := ["numbers"]
theorem sc_Cycle_of : FnScope N_Cycle_of ["numbers"] (defScope s_Cycle_of) := ⟨rfl, rfl, rfl, by decide +kernel, rfl, by decide +kernel, by decide +kernel⟩
abbrev s_Cycle_amount : Stmt := clsS 42 4
abbrev N_Cycle_amount : List Str := ["self"]
theorem sc_Cycle_amount : FnScope N_Cycle_amount ["self"] (defScope s_Cycle_amount) := ⟨rfl, rfl, rfl, by decide +kernel, rfl, by decide +kernel, by decide +kernel⟩
abbrev s_Cycle___len__ : Stmt := clsS 42 5
abbrev N_Cycle___len__ : List Str := ["self"]
theorem sc_Cycle___len__ : FnScope N_Cycle___len__ ["self"] (defScope s_Cycle___len__) := ⟨rfl, rfl, rfl, by decide +kernel, rfl, by decide +kernel, by decide +kernel⟩
abbrev s_Cycle___getitem__ : Stmt := clsS 42 7
abbrev N_Cycle___getitem__ : List Str := ["self", "n"]
theorem sc_Cycle___getitem__ : FnScope N_Cycle___getitem__ ["self", "n"] (defScope s_Cycle___getitem__) := ⟨rfl, rfl, rfl, by decide +kernel, rfl, by decide +kernel, by decide +kernel⟩
abbrev s_Cycle___lshift__ : Stmt := clsS 42 9
abbrev N_Cycle___lshift__ : List Str := ["self", "k", "many", "at"]
theorem sc_Cycle___lshift__ : FnScope N_Cycle___lshift__ ["self", "k"] (defScope s_Cycle___lshift__) := ⟨rfl, rfl, rfl, by decide +kernel, rfl, by decide +kernel, by decide +kernel⟩
abbrev s_Cycle___eq__ : Stmt := clsS 42 14
abbrev N_Cycle___eq__ : List Str := ["self", "other"]
theorem sc_Cycle___eq__ : FnScope N_Cycle___eq__ ["self", "other"] (defScope s_Cycle___eq__) := ⟨rfl, rfl, rfl, by decide +kernel, rfl, by decide +kernel, by decide +kernel⟩
abbrev s_cycle_of : Stmt := topS 43
abbrev N_cycle_of : List Str := ["numbers"]
theorem sc_cycle_of : FnScope N_cycle_of ["numbers"] (defScope s_cycle_of) := ⟨rfl, rfl, rfl, by decide +kernel, rfl, by decide +kernel, by decide +kernel⟩
abbrev s_binomial : Stmt := topS 49
abbrev N_binomial : List Str := ["n", "j", "found", "k"]
theorem sc_binomial : FnScope N_binomial ["n", "j"] (defScope s_binomial) := ⟨rfl, rfl, rfl, by decide +kernel, rfl, by decide +kernel, by decide +kernel⟩
abbrev s_lead_of : Stmt := topS 62
abbrev N_lead_of : List Str := ["value", "modulus", "number"]
theorem sc_lead_of : FnScope N_lead_of ["value", "modulus"] (defScope s_lead_of) := ⟨rfl, rfl, rfl, by decide +kernel, rfl, by decide +kernel, by decide +kernel⟩
abbrev s_need_beat : Stmt := topS 63
abbrev N_need_beat : List Str := ["value"]
theorem sc_need_beat : FnScope N_need_beat ["value"] (defScope s_need_beat) := ⟨rfl, rfl, rfl, by decide +kernel, rfl, by decide +kernel, by decide +kernel⟩
abbrev s_weighed : Stmt := topS 64
abbrev N_weighed : List Str := ["rests", "many", "at"]
theorem sc_weighed : FnScope N_weighed ["rests"] (defScope s_weighed) := ⟨rfl, rfl, rfl, by decide +kernel, rfl, by decide +kernel, by decide +kernel⟩
abbrev s_coefs_of : Stmt := topS 65
abbrev N_coefs_of : List Str := ["values", "modulus", "found", "row", "at"]
theorem sc_coefs_of : FnScope N_coefs_of ["values", "modulus"] (defScope s_coefs_of) := ⟨rfl, rfl, rfl, by decide +kernel, rfl, by decide +kernel, by decide +kernel⟩
abbrev s_Run___init__ : Stmt := clsS 66 0
abbrev N_Run___init__ : List Str := ["self", "chain", "lead", "starts", "cycle", "at"]
theorem sc_Run___init__ : FnScope N_Run___init__ ["self", "chain", "lead", "starts"] (defScope s_Run___init__) := ⟨rfl, rfl, rfl, by decide +kernel, rfl, by decide +kernel, by decide +kernel⟩
abbrev s_Run_reckoned : Stmt := clsS 66 1
abbrev N_Run_reckoned : List Str := ["self", "many", "rows", "at", "m"]
theorem sc_Run_reckoned : FnScope N_Run_reckoned ["self"] (defScope s_Run_reckoned) := ⟨rfl, rfl, rfl, by decide +kernel, rfl, by decide +kernel, by decide +kernel⟩
abbrev s_Run_table_of : Stmt := clsS 66 2
abbrev N_Run_table_of : List Str := ["self", "rows", "stages", "modulus", "k", "row"]
theorem sc_Run_table_of : FnScope N_Run_table_of ["self", "rows"] (defScope s_Run_table_of) := ⟨rfl, rfl, rfl, by decide +kernel, rfl, by decide +kernel, by decide +kernel⟩
abbrev s_Run_rest_of : Stmt := clsS 66 6
abbrev N_Run_rest_of : List Str := ["self", "stage", "beat", "many", "coefs", "m", "j", "coef"]
theorem sc_Run_rest_of : FnScope N_Run_rest_of ["self", "stage", "beat"] (defScope s_Run_rest_of) := ⟨rfl, rfl, rfl, by decide +kernel, rfl, by decide +kernel, by decide +kernel⟩
abbrev s_Run_carries_at : Stmt := clsS 66 10
abbrev N_Run_carries_at : List Str := ["self", "beat"]
theorem sc_Run_carries_at : FnScope N_Run_carries_at ["self", "beat"] (defScope s_Run_carries_at) := ⟨rfl, rfl, rfl, by decide +kernel, rfl, by decide +kernel, by decide +kernel⟩
abbrev s_Run_rests_at : Stmt := clsS 66 11
abbrev N_Run_rests_at : List Str := ["self", "beat", "stage"]
theorem sc_Run_rests_at : FnScope N_Run_rests_at ["self", "beat"] (defScope s_Run_rests_at) := ⟨rfl, rfl, rfl, by decide +kernel, rfl, by decide +kernel, by decide +kernel⟩
abbrev s_Run_inputs_to : Stmt := clsS 66 18
abbrev N_Run_inputs_to : List Str := ["self", "beat", "many"]
theorem sc_Run_inputs_to : FnScope N_Run_inputs_to ["self", "beat"] (defScope s_Run_inputs_to) := ⟨rfl, rfl, rfl, by decide +kernel, rfl, by decide +kernel, by decide +kernel⟩
abbrev s_Run_prompted : Stmt := clsS 66 24
abbrev N_Run_prompted : List Str := ["self", "starts", "stage"]
theorem sc_Run_prompted : FnScope N_Run_prompted ["self"] (defScope s_Run_prompted) := ⟨rfl, rfl, rfl, by decide +kernel, rfl, by decide +kernel, by decide +kernel⟩
abbrev s_Standing___init__ : Stmt := clsS 70 0
abbrev N_Standing___init__ : List Str := ["self", "rests", "carried", "cycle"]
theorem sc_Standing___init__ : FnScope N_Standing___init__ ["self", "rests", "carried", "cycle"] (defScope s_Standing___init__) := ⟨rfl, rfl, rfl, by decide +kernel, rfl, by decide +kernel, by decide +kernel⟩
abbrev s_Standing_changed : Stmt := clsS 70 1
abbrev N_Standing_changed : List Str := ["self", "rests", "carried", "cycle", "found"]
theorem sc_Standing_changed : FnScope N_Standing_changed ["self", "rests", "carried", "cycle"] (defScope s_Standing_changed) := ⟨rfl, rfl, rfl, by decide +kernel, rfl, by decide +kernel, by decide +kernel⟩
abbrev s_Standing_counted : Stmt := clsS 70 2
abbrev N_Standing_counted : List Str := ["self", "beats", "given", "found"]
theorem sc_Standing_counted : FnScope N_Standing_counted ["self", "beats", "given"] (defScope s_Standing_counted) := ⟨rfl, rfl, rfl, by decide +kernel, rfl, by decide +kernel, by decide +kernel⟩
abbrev s_Standing_behind : Stmt := clsS 70 3
abbrev N_Standing_behind : List Str := ["self", "ahead", "word", "found"]
theorem sc_Standing_behind : FnScope N_Standing_behind ["self", "ahead", "word"] (defScope s_Standing_behind) := ⟨rfl, rfl, rfl, by decide +kernel, rfl, by decide +kernel, by decide +kernel⟩
abbrev s_put_together : Stmt := topS 71
abbrev N_put_together : List Str := ["recent", "total", "stage", "at"]
theorem sc_put_together : FnScope N_put_together ["recent"] (defScope s_put_together) := ⟨rfl, rfl, rfl, by decide +kernel, rfl, by decide +kernel, by decide +kernel⟩
abbrev s_Bench___init__ : Stmt := clsS 72 0
abbrev N_Bench___init__ : List Str := ["self", "run", "prompt", "carried", "at"]
theorem sc_Bench___init__ : FnScope N_Bench___init__ ["self", "run"] (defScope s_Bench___init__) := ⟨rfl, rfl, rfl, by decide +kernel, rfl, by decide +kernel, by decide +kernel⟩
abbrev s_Bench_now : Stmt := clsS 72 1
abbrev N_Bench_now : List Str := ["self"]
theorem sc_Bench_now : FnScope N_Bench_now ["self"] (defScope s_Bench_now) := ⟨rfl, rfl, rfl, by decide +kernel, rfl, by decide +kernel, by decide +kernel⟩
abbrev s_Bench_given : Stmt := clsS 72 2
abbrev N_Bench_given : List Str := ["self"]
theorem sc_Bench_given : FnScope N_Bench_given ["self"] (defScope s_Bench_given) := ⟨rfl, rfl, rfl, by decide +kernel, rfl, by decide +kernel, by decide +kernel⟩
abbrev s_Bench_rests : Stmt := clsS 72 3
abbrev N_Bench_rests : List Str := ["self"]
theorem sc_Bench_rests : FnScope N_Bench_rests ["self"] (defScope s_Bench_rests) := ⟨rfl, rfl, rfl, by decide +kernel, rfl, by decide +kernel, by decide +kernel⟩
abbrev s_Bench_carried : Stmt := clsS 72 4
abbrev N_Bench_carried : List Str := ["self"]
theorem sc_Bench_carried : FnScope N_Bench_carried ["self"] (defScope s_Bench_carried) := ⟨rfl, rfl, rfl, by decide +kernel, rfl, by decide +kernel, by decide +kernel⟩
abbrev s_Bench_past : Stmt := clsS 72 5
abbrev N_Bench_past : List Str := ["self"]
theorem sc_Bench_past : FnScope N_Bench_past ["self"] (defScope s_Bench_past) := ⟨rfl, rfl, rfl, by decide +kernel, rfl, by decide +kernel, by decide +kernel⟩
abbrev s_Bench_lead_now : Stmt := clsS 72 6
abbrev N_Bench_lead_now : List Str := ["self"]
theorem sc_Bench_lead_now : FnScope N_Bench_lead_now ["self"] (defScope s_Bench_lead_now) := ⟨rfl, rfl, rfl, by decide +kernel, rfl, by decide +kernel, by decide +kernel⟩
abbrev s_Bench_set_lead : Stmt := clsS 72 8
abbrev N_Bench_set_lead : List Str := ["self", "lead", "cycle", "held"]
theorem sc_Bench_set_lead : FnScope N_Bench_set_lead ["self", "lead"] (defScope s_Bench_set_lead) := ⟨rfl, rfl, rfl, by decide +kernel, rfl, by decide +kernel, by decide +kernel⟩
abbrev s_Bench_run : Stmt := clsS 72 9
abbrev N_Bench_run : List Str := ["self", "rests"]
theorem sc_Bench_run : FnScope N_Bench_run ["self"] (defScope s_Bench_run) := ⟨rfl, rfl, rfl, by decide +kernel, rfl, by decide +kernel, by decide +kernel⟩
abbrev s_Bench___len__ : Stmt := clsS 72 10
abbrev N_Bench___len__ : List Str := ["self"]
theorem sc_Bench___len__ : FnScope N_Bench___len__ ["self"] (defScope s_Bench___len__) := ⟨rfl, rfl, rfl, by decide +kernel, rfl, by decide +kernel, by decide +kernel⟩
abbrev s_Bench___getitem__ : Stmt := clsS 72 12
abbrev N_Bench___getitem__ : List Str := ["self", "stage"]
theorem sc_Bench___getitem__ : FnScope N_Bench___getitem__ ["self", "stage"] (defScope s_Bench___getitem__) := ⟨rfl, rfl, rfl, by decide +kernel, rfl, by decide +kernel, by decide +kernel⟩
abbrev s_Bench___setitem__ : Stmt := clsS 72 13
abbrev N_Bench___setitem__ : List Str := ["self", "stage", "rest", "held", "rests"]
theorem sc_Bench___setitem__ : FnScope N_Bench___setitem__ ["self", "stage", "rest"] (defScope s_Bench___setitem__) := ⟨rfl, rfl, rfl, by decide +kernel, rfl, by decide +kernel, by decide +kernel⟩
abbrev s_Bench_go : Stmt := clsS 72 15
abbrev N_Bench_go : List Str := ["self", "number", "cycle", "held", "rests", "carries", "recent", "output"]
theorem sc_Bench_go : FnScope N_Bench_go ["self", "number", "cycle"] (defScope s_Bench_go) := ⟨rfl, rfl, rfl, by decide +kernel, rfl, by decide +kernel, by decide +kernel⟩
abbrev s_Bench_step : Stmt := clsS 72 16
abbrev N_Bench_step : List Str := ["self", "many", "held", "cycle", "outputs", "turn", "last"]
theorem sc_Bench_step : FnScope N_Bench_step ["self", "many"] (defScope s_Bench_step) := ⟨rfl, rfl, rfl, by decide +kernel, rfl, by decide +kernel, by decide +kernel⟩
abbrev s_Bench_leap : Stmt := clsS 72 17
abbrev N_Bench_leap : List Str := ["self", "many", "held", "run", "later", "at", "carried", "rests", "given", "led"]
theorem sc_Bench_leap : FnScope N_Bench_leap ["self", "many"] (defScope s_Bench_leap) := ⟨rfl, rfl, rfl, by decide +kernel, rfl, by decide +kernel, by decide +kernel⟩
abbrev s_Bench_led : Stmt := clsS 72 18
abbrev N_Bench_led : List Str := ["self", "rule", "many", "first", "outputs", "held", "turn"]
theorem sc_Bench_led : FnScope N_Bench_led ["self", "rule", "many"] (defScope s_Bench_led) := ⟨rfl, rfl, rfl, by decide +kernel, rfl, by decide +kernel, by decide +kernel⟩
abbrev s_Bench_told_by : Stmt := clsS 72 19
abbrev N_Bench_told_by : List Str := ["self", "rule", "beat", "number", "error"]
theorem sc_Bench_told_by : FnScope N_Bench_told_by ["self", "rule"] (defScope s_Bench_told_by) := ⟨rfl, rfl, rfl, by decide +kernel, rfl, by decide +kernel, by decide +kernel⟩
abbrev s_Bench_undo : Stmt := clsS 72 20
abbrev N_Bench_undo : List Str := ["self", "held"]
theorem sc_Bench_undo : FnScope N_Bench_undo ["self"] (defScope s_Bench_undo) := ⟨rfl, rfl, rfl, by decide +kernel, rfl, by decide +kernel, by decide +kernel⟩
abbrev s_Bench_tried : Stmt := clsS 72 22
abbrev N_Bench_tried : List Str := ["self", "work", "held"]
theorem sc_Bench_tried : FnScope N_Bench_tried ["self", "work"] (defScope s_Bench_tried) := ⟨rfl, rfl, rfl, by decide +kernel, rfl, by decide +kernel, by decide +kernel⟩
abbrev s_Bench_twin : Stmt := clsS 72 23
abbrev N_Bench_twin : List Str := ["self", "held"]
theorem sc_Bench_twin : FnScope N_Bench_twin ["self"] (defScope s_Bench_twin) := ⟨rfl, rfl, rfl, by decide +kernel, rfl, by decide +kernel, by decide +kernel⟩
abbrev s_put_together_ahead : Stmt := topS 73
abbrev N_put_together_ahead : List Str := ["carried", "total", "at", "k"]
theorem sc_put_together_ahead : FnScope N_put_together_ahead ["carried"] (defScope s_put_together_ahead) := ⟨rfl, rfl, rfl, by decide +kernel, rfl, by decide +kernel, by decide +kernel⟩
abbrev s_bench_of : Stmt := topS 74
abbrev N_bench_of : List Str := ["chain", "lead", "rests", "carried", "now", "given", "found", "standing", "carries"]
theorem sc_bench_of : FnScope N_bench_of ["chain", "lead", "rests", "carried", "now", "given"] (defScope s_bench_of) := ⟨rfl, rfl, rfl, by decide +kernel, rfl, by decide +kernel, by decide +kernel⟩
abbrev s__law_pen : Stmt := topS 76
abbrev N__law_pen : List Str := ["_law_script"]
theorem sc__law_pen : FnScope N__law_pen ["_law_script"] (defScope s__law_pen) := ⟨rfl, rfl, rfl, by decide +kernel, rfl, by decide +kernel, by decide +kernel⟩
abbrev s__law_draw : Stmt := topS 77
abbrev N__law_draw : List Str := ["_law_pen_here", "_law_many", "_law_digit", "_law_at", "_law_cell", "_law_great", "_law_mixed"]
theorem sc__law_draw : FnScope N__law_draw ["_law_pen_here", "_law_many"] (defScope s__law_draw) := ⟨rfl, rfl, rfl, by decide +kernel, rfl, by decide +kernel, by decide +kernel⟩
abbrev s__law_pick : Stmt := topS 78
abbrev N__law_pick : List Str := ["_law_pen_here", "_law_some"]
theorem sc__law_pick : FnScope N__law_pick ["_law_pen_here", "_law_some"] (defScope s__law_pick) := ⟨rfl, rfl, rfl, by decide +kernel, rfl, by decide +kernel, by decide +kernel⟩
abbrev s__law_heard : Stmt := topS 79
abbrev N__law_heard : List Str := ["_law_ask", "_law_caught", "error", "_law_found"]
theorem sc__law_heard : FnScope N__law_heard ["_law_ask"] (defScope s__law_heard) := ⟨rfl, rfl, rfl, by decide +kernel, rfl, by decide +kernel, by decide +kernel⟩
abbrev s__law_number : Stmt := topS 80
abbrev N__law_number : List Str := ["_law_pen_here", "_law_wide"]
theorem sc__law_number : FnScope N__law_number ["_law_pen_here", "_law_wide"] (defScope s__law_number) := ⟨rfl, rfl, rfl, by decide +kernel, rfl, by decide +kernel, by decide +kernel⟩
abbrev s__law_plain : Stmt := topS 81
abbrev N__law_plain : List Str := ["_law_pen_here", "_law_most", "_law_wide", "_law_deep", "_law_row", "_law_turn"]
theorem sc__law_plain : FnScope N__law_plain ["_law_pen_here", "_law_most"] (defScope s__law_plain) := ⟨rfl, rfl, rfl, by decide +kernel, rfl, by decide +kernel, by decide +kernel⟩
abbrev s__law_run : Stmt := topS 82
abbrev N__law_run : List Str := ["_law_plain_here", "_law_is_late", "_law_wide", "_law_row", "_law_some", "_law_made", "_law_told"]
theorem sc__law_run : FnScope N__law_run ["_law_plain_here"] (defScope s__law_run) := ⟨rfl, rfl, rfl, by decide +kernel, rfl, by decide +kernel, by decide +kernel⟩
abbrev s__law_beat : Stmt := topS 83
abbrev N__law_beat : List Str := ["_law_is_late", "_law_wide", "_law_old", "_law_given", "_law_found", "_law_carries", "_law_part", "_law_total"]
theorem sc__law_beat : FnScope N__law_beat ["_law_is_late", "_law_wide", "_law_old", "_law_given"] (defScope s__law_beat) := ⟨rfl, rfl, rfl, by decide +kernel, rfl, by decide +kernel, by decide +kernel⟩
abbrev s__law_undone : Stmt := topS 84
abbrev N__law_undone : List Str := ["_law_is_late", "_law_wide", "_law_new", "_law_given", "_law_found", "_law_part"]
theorem sc__law_undone : FnScope N__law_undone ["_law_is_late", "_law_wide", "_law_new", "_law_given"] (defScope s__law_undone) := ⟨rfl, rfl, rfl, by decide +kernel, rfl, by decide +kernel, by decide +kernel⟩
abbrev s__law_walk : Stmt := topS 85
abbrev N__law_walk : List Str := ["_law_plain_here", "_law_first", "_law_last", "_law_is_late", "_law_wide", "_law_row", "_law_starts_so", "_law_held", "_law_found", "_law_at", "_law_ahead"]
theorem sc__law_walk : FnScope N__law_walk ["_law_plain_here", "_law_first", "_law_last"] (defScope s__law_walk) := ⟨rfl, rfl, rfl, by decide +kernel, rfl, by decide +kernel, by decide +kernel⟩
abbrev s__law_chosen : Stmt := topS 86
abbrev N__law_chosen : List Str := ["_law_many", "_law_at", "_law_found", "_law_k"]
theorem sc__law_chosen : FnScope N__law_chosen ["_law_many", "_law_at"] (defScope s__law_chosen) := ⟨rfl, rfl, rfl, by decide +kernel, rfl, by decide +kernel, by decide +kernel⟩
abbrev s__law_begun : Stmt := topS 87
abbrev N__law_begun : List Str := ["_law_plain_here", "_law_is_late", "_law_wide", "_law_row", "_law_some", "_law_slow", "_law_spot", "_law_walk_so", "_law_at"]
theorem sc__law_begun : FnScope N__law_begun ["_law_plain_here"] (defScope s__law_begun) := ⟨rfl, rfl, rfl, by decide +kernel, rfl, by decide +kernel, by decide +kernel⟩
abbrev s__law_gone : Stmt := topS 88
abbrev N__law_gone : List Str := ["_law_held", "_law_given", "_law_wide", "_law_row", "_law_some", "_law_kept", "_law_gone_here", "_law_total", "_law_new", "_law_carries", "_law_recent", "_law_gave", "_law_spot", "_law_back"]
theorem sc__law_gone : FnScope N__law_gone ["_law_held", "_law_given"] (defScope s__law_gone) := ⟨rfl, rfl, rfl, by decide +kernel, rfl, by decide +kernel, by decide +kernel⟩
abbrev s__law_steps : Stmt := topS 89
abbrev N__law_steps : List Str := ["_law_held", "_law_often", "_law_found", "_law_turn", "_law_gave"]
theorem sc__law_steps : FnScope N__law_steps ["_law_held", "_law_often"] (defScope s__law_steps) := ⟨rfl, rfl, rfl, by decide +kernel, rfl, by decide +kernel, by decide +kernel⟩
abbrev s__law_is : Stmt := topS 90
abbrev N__law_is : List Str := ["_law_bench", "_law_held", "_law_wide", "_law_row", "_law_some", "_law_kept", "_law_gone_here", "_law_total", "_law_one", "_law_spot"]
theorem sc__law_is : FnScope N__law_is ["_law_bench", "_law_held"] (defScope s__law_is) := ⟨rfl, rfl, rfl, by decide +kernel, rfl, by decide +kernel, by decide +kernel⟩
abbrev s__law_put : Stmt := topS 91
abbrev N__law_put : List Str := ["_law_bench", "_law_spot", "_law_part"]
theorem sc__law_put : FnScope N__law_put ["_law_bench", "_law_spot", "_law_part"] (defScope s__law_put) := ⟨rfl, rfl, rfl, by decide +kernel, rfl, by decide +kernel, by decide +kernel⟩
abbrev s__law_deed : Stmt := topS 92
abbrev N__law_deed : List Str := ["_law_pen_here", "_law_bench", "_law_held", "_law_way", "_law_wide", "_law_deep", "_law_often", "_law_due", "_law_row", "_law_turn", "_law_spot", "_law_part", "_law_begun_here", "_law_given", "_law_gave", "_law_told"]
theorem sc__law_deed : FnScope N__law_deed ["_law_pen_here", "_law_bench", "_law_held"] (defScope s__law_deed) := ⟨rfl, rfl, rfl, by decide +kernel, rfl, by decide +kernel, by decide +kernel⟩
abbrev s__law_tried_so : Stmt := topS 93
abbrev N__law_tried_so : List Str := ["_law_pen_here", "_law_bench", "_law_held", "_law_told", "_law_odd"]
theorem sc__law_tried_so : FnScope N__law_tried_so ["_law_pen_here", "_law_bench", "_law_held"] (defScope s__law_tried_so) := ⟨rfl, rfl, rfl, by decide +kernel, rfl, by decide +kernel, by decide +kernel⟩
abbrev s__law_right : Stmt := topS 94
abbrev N__law_right : List Str := ["_law_pen_here", "_law_plain_here", "_law_bench", "_law_held", "_law_notes", "_law_words", "_law_turn", "_law_way", "_law_one", "_law_done"]
theorem sc__law_right : FnScope N__law_right ["_law_pen_here", "_law_plain_here"] (defScope s__law_right) := ⟨rfl, rfl, rfl, by decide +kernel, rfl, by decide +kernel, by decide +kernel⟩
abbrev s_law : Stmt := topS 95
abbrev N_law : List Str := ["_law_script", "_law_pen_here", "_law_turn"]
theorem sc_law : FnScope N_law ["_law_script"] (defScope s_law) := ⟨rfl, rfl, rfl, by decide +kernel, rfl, by decide +kernel, by decide +kernel⟩
/-- the getter of the property f of C -/
def prG (K : PySem.W.Frag) (C : Addr) (f : Str) : Addr := match PySem.W.recIn K (He.ma K C f) "property" with
  | some (.ref g :: _) => g
  | _ => 0
def stG (K : PySem.W.Frag) (C : Addr) (f : Str) : Addr := match PySem.W.recIn K (He.ma K C f) "staticmethod" with
  | some (.ref g :: _) => g
  | _ => 0
/-- the class of a chain -/
def chC (K : PySem.W.Frag) (late : Bool) : Addr := if late then He.ga K "Late" else He.ga K "Prompt"
end Tx
end
section
/-! The run by doubling, the common instructions by one case split each. -/
namespace Hx
open PySem PySem.W PySem.Calls PyProof.Rows HandSHeadRun
section
variable {γ : Type} (st : SharedT → Thread → Option (SharedT × Thread)) (n0 : Nat) (ann : Option Value) (f : SharedT → γ)
abbrev Kt (γ : Type) : Type := SharedT → Thread → Option γ
/-- one step, then k -/
def one (k : Kt γ) : Kt γ := fun s t => match through t with
  | true => some (f s)
  | false => match stepOk n0 ann t with
    | false => none
    | true => match st s t with
      | some (s', t') => frS s' fun s' => k s' t'
      | none => none
def dbl (c : Kt γ → Kt γ) : Kt γ → Kt γ := fun k => c (c k)
/-- c is n steps -/
def Steps (n : Nat) (c : Kt γ → Kt γ) : Prop := ∀ (j : Nat) (k : Kt γ), (∀ s t, k s t = (goF st n0 ann j s t).map f) → ∀ s t, c k s t = (goF st n0 ann (n + j) s t).map f
theorem one_ok : Steps st n0 ann f 1 (one st n0 ann f) := fun j k h s t => by
  rw [Nat.add_comm]
  unfold one
  show _ = (match through t with
    | true => some s
    | false => match stepOk n0 ann t with
      | false => none
      | true => match st s t with
        | some (s', t') => frS s' fun s' => goF st n0 ann j s' t'
        | none => none).map f
  cases through t with
  | true => rfl
  | false =>
    cases stepOk n0 ann t with
    | false => rfl
    | true =>
      cases st s t with
      | none => rfl
      | some r =>
        obtain ⟨s', t'⟩ := r
        show (frS s' fun s' => k s' t') = (frS s' fun s' => goF st n0 ann j s' t').map f
        rw [frS_eq, frS_eq]
        exact h s' t'
theorem dbl_ok {n : Nat} {c : Kt γ → Kt γ} (h : Steps st n0 ann f n c) : Steps st n0 ann f (n + n) (dbl c) := fun j k hk s t => by
  rw [Nat.add_assoc]
  exact h (n + j) (c k) (h j k hk) s t
/-- an object is read -/
def rd (k : Kt γ) (kk : Obj → Sem Fin) (code : Code) (pos : Pos) (stack : List Frame) (s : SharedT) : Option Obj → Option γ
  | some o => match alive o with
    | some o' => k s ⟨kk o', code, pos, stack⟩
    | none => none
  | none => none
/-- an object is changed -/
def up (k : Kt γ) (a : Addr) (g : Obj → Obj) (kk : Unit → Sem Fin) (code : Code) (pos : Pos) (stack : List Frame) : SharedT → Option Obj → Option γ
  | ⟨T, n, life, gens, drawn, toks, os⟩, some o => match alive o with
    | some _ => k ⟨T.set a g, n, life, gens, drawn, toks, os⟩ ⟨kk (), code, pos, stack⟩
    | none => none
  | _, none => none
def al (k : Kt γ) (o : Obj) (kk : Addr → Sem Fin) (code : Code) (pos : Pos) (stack : List Frame) : SharedT → Option γ
  | ⟨T, n, life, gens, drawn, toks, os⟩ => match ((T.ins n o).get n).isSome with
    | true => frNat (n + 1) fun m => k ⟨T.ins n o, m, life, gens, drawn, toks, os⟩ ⟨kk n, code, pos, stack⟩
    | false => none
def fre (k : Kt γ) (kk : Tok → Sem Fin) (code : Code) (pos : Pos) (stack : List Frame) : SharedT → Option γ
  | ⟨T, n, life, gens, drawn, toks, os⟩ => frNat (toks + 1) fun m => k ⟨T, n, life, gens, drawn, m, os⟩ ⟨kk toks, code, pos, stack⟩
def rdA (k : Kt γ) (kk : Option Obj → Sem Fin) (code : Code) (pos : Pos) (stack : List Frame) (s : SharedT) : Option Obj → Option γ
  | some o => k s ⟨kk (alive o), code, pos, stack⟩
  | none => none
/-- what a call leaves on the stack: looked at only where it is asked -/
def keptOf (den : Code → Sem Fin) (p : Program) (w : World) (c : Code) (h : Option Value) (g : Bool) (l : List Value) (kk : Result → Sem Fin) (code : Code) (pos : Pos) : List Value := match step den p w ⟨{}, #[], {}, 0, {}⟩ ⟨.call c h g l kk, code, pos, []⟩ with
  | .go _ ⟨_, _, _, .ret _ _ _ _ _ _ kept :: _⟩ => kept
  | _ => []
/-- what going on by another code leaves on the stack -/
def stackOf (den : Code → Sem Fin) (p : Program) (w : World) (c code : Code) (pos : Pos) (stack : List Frame) : List Frame := match step den p w ⟨{}, #[], {}, 0, {}⟩ ⟨.pure (.again c), code, pos, stack⟩ with
  | .go _ t => t.stack
  | _ => []
/-- a step of a common kind at once, another as it was -/
def oneZ (den : Code → Sem Fin) (w : World) (p : Program) (k : Kt γ) : Kt γ := fun s t => match t with
  | ⟨cur, code, pos, stack⟩ => match cur with
    | .rule _ kk => k s ⟨kk (), code, pos, stack⟩
    | .at q kk => k s ⟨kk (), code, q, stack⟩
    | .point _ kk => k s ⟨kk (), code, pos, stack⟩
    | .ask kk => k s ⟨kk ⟨p, w.params⟩, code, pos, stack⟩
    | .load a _ kk => match Nat.blt a s.n with
      | true => rd k kk code pos stack s (s.tree.get a)
      | false => none
    | .loadIfAlive a kk => match Nat.blt a s.n with
      | true => rdA k kk code pos stack s (s.tree.get a)
      | false => k s ⟨kk none, code, pos, stack⟩
    | .alloc o kk => al k o kk code pos stack s
    | .fresh kk => fre k kk code pos stack s
    | .stack kk => k s ⟨kk ((code, pos) :: stack.map Frame.where_), code, pos, stack⟩
    | .call c h g l kk => k s ⟨den c, c, pos, .ret kk h g l code pos (keptOf den p w c h g l kk code pos) :: stack⟩
    | .update a _ g kk => match Nat.ble n0 a || a == mainNs || a == cStatics || ann == some (.ref a) with
      | true => match Nat.blt a s.n with
        | true => up k a g kk code pos stack s (s.tree.get a)
        | false => none
      | false => none
    | .pure (.again c) => match c with
      | .call .. => k s ⟨den c, c, pos, stackOf den p w c code pos stack⟩
      | _ => one st n0 ann f k s t
    | .pure (.done v) => match stack with
      | [] => some (f s)
      | .ret kk _ _ _ c q _ :: rest => k s ⟨kk (.ok v), c, q, rest⟩
      | .gen .. :: _ => one st n0 ann f k s t
    | _ => one st n0 ann f k s t
end
section
variable {γ : Type} {den : Code → Sem Fin} {p : Program} {w : World} (n0 : Nat) (ann : Option Value) (f : SharedT → γ)
theorem one_calm {st : SharedT → Thread → Option (SharedT × Thread)} {k : Kt γ} {s : SharedT} {t : Thread} (h1 : through t = false) (h2 : stepOk n0 ann t = true) : one st n0 ann f k s t = match st s t with
    | some (s', t') => k s' t'
    | none => none := by
  unfold one
  rw [h1, h2]
  show (match st s t with
    | some (s', t') => frS s' fun s' => k s' t'
    | none => none) = _
  cases st s t with
  | none => rfl
  | some r =>
    obtain ⟨s', t'⟩ := r
    show frS s' (fun s' => k s' t') = k s' t'
    rw [frS_eq]
theorem oneZ_eq (k : Kt γ) (s : SharedT) (t : Thread) : oneZ (stepT den p w) n0 ann f den w p k s t = one (stepT den p w) n0 ann f k s t := by
  obtain ⟨cur, code, pos, stack⟩ := t
  obtain ⟨T, n, life, gens, drawn, toks, os⟩ := s
  cases cur with
  | rule a kk => rw [one_calm n0 ann f (by cases stack <;> rfl) rfl]; rfl
  | «at» a kk => rw [one_calm n0 ann f (by cases stack <;> rfl) rfl]; rfl
  | point a kk => rw [one_calm n0 ann f (by cases stack <;> rfl) rfl]; rfl
  | ask kk => rw [one_calm n0 ann f (by cases stack <;> rfl) rfl]; rfl
  | stack kk => rw [one_calm n0 ann f (by cases stack <;> rfl) rfl]; rfl
  | call c h g l kk => rw [one_calm n0 ann f (by cases stack <;> rfl) rfl]; rfl
  | fresh kk =>
    rw [one_calm n0 ann f (by cases stack <;> rfl) rfl]
    unfold oneZ fre
    dsimp only
    rw [frNat_eq]
    rfl
  | alloc o kk =>
    rw [one_calm n0 ann f (by cases stack <;> rfl) rfl]
    unfold oneZ al stepT
    dsimp only
    cases ((T.ins n o).get n).isSome with
    | false => rfl
    | true =>
      dsimp only
      rw [frNat_eq]
  | update a b g kk =>
    cases e : (Nat.ble n0 a || a == mainNs || a == cStatics || ann == some (.ref a)) with
    | false =>
      have h1 : through ⟨.update a b g kk, code, pos, stack⟩ = false := by cases stack <;> rfl
      have h2 : stepOk n0 ann ⟨.update a b g kk, code, pos, stack⟩ = false := e
      unfold one oneZ
      rw [h1, h2]
      dsimp only
      rw [e]
    | true =>
      rw [one_calm n0 ann f (t := ⟨.update a b g kk, code, pos, stack⟩) (by cases stack <;> rfl) e]
      unfold oneZ stepT
      dsimp only
      rw [e]
      dsimp only
      cases Nat.blt a n with
      | false => rfl
      | true =>
        dsimp only
        cases T.get a with
        | none => rfl
        | some o =>
          unfold up
          dsimp only
          cases alive o <;> rfl
  | loadIfAlive a kk =>
    rw [one_calm n0 ann f (by cases stack <;> rfl) rfl]
    unfold oneZ rdA stepT
    dsimp only
    cases Nat.blt a n with
    | false => rfl
    | true =>
      dsimp only
      cases T.get a <;> rfl
  | load a b kk =>
    rw [one_calm n0 ann f (by cases stack <;> rfl) rfl]
    unfold oneZ rd stepT
    dsimp only
    cases Nat.blt a n with
    | false => rfl
    | true =>
      dsimp only
      cases T.get a with
      | none => rfl
      | some o =>
        dsimp only
        cases alive o <;> rfl
  | pure v =>
    cases v with
    | done v =>
      cases stack with
      | nil => rfl
      | cons fr rest =>
        cases fr with
        | ret kk h g l c q kept => rw [one_calm n0 ann f (by rfl) (by rfl)]; rfl
        | gen => rfl
    | again c =>
      cases c with
      | call fa args => rw [one_calm n0 ann f (by cases stack <;> rfl) rfl]; rfl
      | _ => rfl
  | _ => rfl
theorem oneZ_ok : Steps (stepT den p w) n0 ann f 1 (oneZ (stepT den p w) n0 ann f den w p) := fun j k h s t => (oneZ_eq n0 ann f k s t).trans (one_ok (stepT den p w) n0 ann f j k h s t)
end
section
variable {γ : Type} (st : SharedT → Thread → Option (SharedT × Thread)) (n0 : Nat) (ann : Option Value) (f : SharedT → γ) (den : Code → Sem Fin) (w : World) (p : Program)
/-- 16384 steps -/
def many : Kt γ → Kt γ := dbl (dbl (dbl (dbl (dbl (dbl (dbl (dbl (dbl (dbl (dbl (dbl (dbl (dbl (oneZ st n0 ann f den w p))))))))))))))
theorem many_ok : Steps (stepT den p w) n0 ann f 16384 (many (stepT den p w) n0 ann f den w p) := by
  have h := oneZ_ok (den := den) (p := p) (w := w) n0 ann f
  iterate 14 replace h := dbl_ok (stepT den p w) n0 ann f h
  exact h
end
/-- from the boot -/
noncomputable def endX {γ : Type} (f : SharedT → γ) (p : Program) (w : World) (os : OsState) : Option γ := match putAll (boot_heap w.params).objs.toList .nil 0 with
  | some (t, n) => frNat n fun n0 => many (stepQ (denQ tabQ) p w) n0 (bootAnn w) f (denQ tabQ) w p (fun _ _ => none) (bootT w os (t, n0)) (topStub p)
  | none => none
theorem endX_eq {γ : Type} {f : SharedT → γ} {p : Program} {w : World} {os : OsState} : (endF (stepQ (denQ tabQ) p w) 16384 p w os).map f = endX f p w os := by
  have e : stepQ (denQ tabQ) p w = stepT (denQ tabQ) p w := by rw [← stepQ_eq]
  unfold endF endX
  rw [e]
  cases putAll (boot_heap w.params).objs.toList .nil 0 with
  | none => rfl
  | some r =>
    obtain ⟨t, n⟩ := r
    show (frNat n fun n0 => goF (stepT (denQ tabQ) p w) n0 (bootAnn w) 16384 (bootT w os (t, n0)) (topStub p)).map f = frNat n fun n0 => many (stepT (denQ tabQ) p w) n0 (bootAnn w) f (denQ tabQ) w p (fun _ _ => none) (bootT w os (t, n0)) (topStub p)
    rw [frNat_eq, frNat_eq]
    exact (many_ok n (bootAnn w) f (denQ tabQ) w p 0 (fun _ _ => none) (fun _ _ => rfl) _ _).symm
end Hx
end
section
/-! What is asked of the written part, as truth values; the run of the top. -/
namespace Hw
open PySem PySem.Spec PyProof.Rows L2 Tx
def bldL (g : Addr → Option Obj) : List Addr → PySem.W.Frag → PySem.W.Frag
  | [], acc => acc
  | a :: r, acc => match g a with
    | some o => bldL g r ((a, o) :: acc)
    | none => bldL g r acc
/-- the same, handed on in full -/
def bld {β : Type} (g : Addr → Option Obj) (k : PySem.W.Frag → β) : List Addr → PySem.W.Frag → β
  | [], acc => k acc
  | a :: r, acc => match g a with
    | some o => bld g k r ((a, o) :: acc)
    | none => bld g k r acc
abbrev FnV5 : Type := Option (Str × Str × Arguments × FuncBody × Scope)
def fnV (K : PySem.W.Frag) (a : Addr) : FnV5 := match K.lookup a with
  | some ⟨_, _, .func fd, _⟩ => some (fd.name, fd.qualname, fd.params, fd.body, fd.scope)
  | _ => none
structure DefA where
  at_ : PySem.W.Frag → Addr
  name : Str
  qual : Str
  st : Stmt
  dfl : List V := []
def DefA.val (d : DefA) : FnV5 := some (d.name, d.qual, defArgs d.st, .stmts (defBody d.st), defScope d.st)
def DefA.ok (K : PySem.W.Frag) (d : DefA) : Bool := match K.lookup (d.at_ K) with
  | some ⟨_, _, .func fd, _⟩ => PySem.W.codeIn K fd.code d.qual && (decide (fd.globals = mainGlobals) && (decide (fd.builtins = builtinsNs) && (fd.closure.isEmpty && (He.dflB K fd.defaults d.dfl && PySem.W.keepIn K (.ref (d.at_ K))))))
  | _ => false
def isCB (K : PySem.W.Frag) (C : Addr) : Bool := PySem.W.plainGet K C Str.empty && (PySem.W.hasDictIn K C && (PySem.W.plainOver K C && (He.eqO (PySem.W.findIn K (.ref C) "__setattr__") (some (some (.builtin "object.__setattr__"))) &&
  (He.eqO (PySem.W.findIn K (.ref C) "__class__") (some (some (.builtin "object.__class__"))) && (He.eqO (PySem.W.specialIn K (.builtin "object.__class__") "__get__") (some (some (.builtin "getset_descriptor.__get__"))) &&
  (decide (PySem.W.takesIn K (.builtin "object.__class__") = some true) && decide (PySem.W.mroIn K C (.type "object") = some true)))))))
def propB (K : PySem.W.Frag) (C : Addr) (f : Str) : Bool := He.eqO (PySem.W.findIn K (.ref C) f) (some (some (.ref (He.ma K C f)))) && (He.eqO (PySem.W.specialIn K (.ref (He.ma K C f)) "__get__") (some (some (.builtin "property.__get__"))) && (decide (PySem.W.takesIn K (.ref (He.ma K C f)) = some true) &&
  (match PySem.W.recIn K (He.ma K C f) "property" with
    | some (.ref _ :: _) => true
    | _ => false)))
def smB (K : PySem.W.Frag) (C : Addr) (m : Str) : Bool := PySem.W.readsIn K C (.type "type") && (He.eqO (PySem.W.specialIn K (.ref C) "__getattribute__") (some (some (.builtin "type.__getattribute__"))) &&
  ((match PySem.W.findCls K (.ref C) (.type "type") m with
    | some (.get (.builtin b) (.ref p) .none (.ref C')) => decide (b = "staticmethod.__get__") && (decide (p = He.ma K C m) && decide (C' = C))
    | _ => false) && ((match PySem.W.recIn K (He.ma K C m) "staticmethod" with
    | some (.ref _ :: _) => true
    | _ => false) && PySem.W.keepIn K (.ref (stG K C m)))))
def ecB (K : PySem.W.Frag) (D : Addr) : Bool := He.eqO (PySem.W.findIn K (.ref D) "__getattribute__") (some (some (.builtin "BaseException.__getattribute__"))) && (He.eqO (PySem.W.findIn K (.ref D) "__getattr__") (some none) && (decide (PySem.W.subIn K (.ref D) (.type "BaseException") = some true) && (PySem.W.hasDictIn K D &&
  (He.eqO (PySem.W.findIn K (.ref D) "__class__") (some (some (.builtin "object.__class__"))) && (He.eqO (PySem.W.specialIn K (.builtin "object.__class__") "__get__") (some (some (.builtin "getset_descriptor.__get__"))) && (decide (PySem.W.takesIn K (.builtin "object.__class__") = some true) && decide (PySem.W.mroIn K D (.type "object") = some true)))))))
/-- an own exception class -/
def oxB (K : PySem.W.Frag) (C : Addr) : Bool := (match K.lookup C with
  | some ⟨.type ty, _, .cls cd, sl⟩ => decide (ty = "type") && (match cd.mro, sl.toList with
    | .ref C' :: bm, [_, _, _, _, some (.builtin n), _] => decide (C' = C) && (decide (n = "ValueError.__new__") && (!cd.hasDel && (cd.hasDict && PySem.HandSPX.refsVE bm)))
    | _, _ => false)
  | _ => false) && (He.eqO (PySem.W.findIn K (.ref C) "__setattr__") (some (some (.builtin "object.__setattr__"))) && (decide (PySem.W.subIn K (.ref C) (.type "BaseException") = some true) && (decide (PySem.W.typeIn K (.ref C) = some (.type "type")) && PySem.W.keepIn K (.ref C))))
/-- the cell of the class of a method that says super -/
def ccOf (K : PySem.W.Frag) (f : Addr) : Addr := match K.lookup f with
  | some ⟨_, _, .func fd, _⟩ => (match fd.closure with
    | [(_, c)] => c
    | _ => 0)
  | _ => 0
def cdOf (K : PySem.W.Frag) (f : Addr) : Addr := match K.lookup f with
  | some ⟨_, _, .func fd, _⟩ => (match fd.code with
    | .ref c => c
    | _ => 0)
  | _ => 0
/-- such a method -/
def supB (K : PySem.W.Frag) (file : Str) (f D : Addr) (q : Str) : Bool := (match K.lookup f with
  | some ⟨_, _, .func fd, _⟩ => PySem.W.codeIn K fd.code q && (decide (fd.globals = mainGlobals) && (decide (fd.builtins = builtinsNs) && (He.dflB K fd.defaults [] && (match fd.closure with
    | [(x, c)] => decide (x = "__class__") && (match K.lookup c with
      | some ⟨_, _, .cell (some (.ref D')), _⟩ => decide (D' = D)
      | _ => false)
    | _ => false))))
  | _ => false) && ((match K.lookup (cdOf K f) with
  | some ⟨_, _, .fields vs, _⟩ => (match (vs[2]? : Option Value) with
    | some (.str fl _) => file == fl
    | _ => false)
  | _ => false) && (decide (PySem.W.mroIn K D (.ref D) = some true) && (decide (PySem.W.subIn K (.ref D) (.type "ValueError") = some true) && (decide (PySem.W.ks_superIn K D D "__init__" = some (some (.builtin "ValueError.__init__"))) && He.eqO (PySem.W.nsIn K cStatics "thirdparty.any") (some none)))))
def ch0 (K : PySem.W.Frag) : List Bool := [
  (He.Fa.glo "is_integer").ok K,
  (He.Fa.glo "is_between").ok K,
  (He.Fa.glo "fits_modulus").ok K,
  (He.Fa.glo "is_row").ok K,
  (He.Fa.glo "first_odd").ok K,
  (He.Fa.glo "beat_of").ok K,
  (He.Fa.glo "shortest_of").ok K,
  (He.Fa.glo "cycle_of").ok K,
  (He.Fa.glo "binomial").ok K,
  (He.Fa.glo "lead_of").ok K,
  (He.Fa.glo "need_beat").ok K,
  (He.Fa.glo "weighed").ok K,
  (He.Fa.glo "coefs_of").ok K,
  (He.Fa.glo "put_together").ok K,
  (He.Fa.glo "put_together_ahead").ok K,
  (He.Fa.glo "bench_of").ok K,
  (He.Fa.glo "_law_pen").ok K,
  (He.Fa.glo "_law_draw").ok K,
  (He.Fa.glo "_law_pick").ok K,
  (He.Fa.glo "_law_heard").ok K]
def ch1 (K : PySem.W.Frag) : List Bool := [
  (He.Fa.glo "_law_number").ok K,
  (He.Fa.glo "_law_plain").ok K,
  (He.Fa.glo "_law_run").ok K,
  (He.Fa.glo "_law_beat").ok K,
  (He.Fa.glo "_law_undone").ok K,
  (He.Fa.glo "_law_walk").ok K,
  (He.Fa.glo "_law_chosen").ok K,
  (He.Fa.glo "_law_begun").ok K,
  (He.Fa.glo "_law_gone").ok K,
  (He.Fa.glo "_law_steps").ok K,
  (He.Fa.glo "_law_is").ok K,
  (He.Fa.glo "_law_put").ok K,
  (He.Fa.glo "_law_deed").ok K,
  (He.Fa.glo "_law_tried_so").ok K,
  (He.Fa.glo "_law_right").ok K,
  (He.Fa.glo "law").ok K,
  (He.Fa.glo "Prompt").ok K,
  (He.Fa.glo "Late").ok K,
  (He.Fa.glo "Cycle").ok K,
  (He.Fa.glo "Run").ok K]
def ch2 (K : PySem.W.Frag) : List Bool := [
  (He.Fa.glo "Standing").ok K,
  (He.Fa.glo "Bench").ok K,
  (He.Fa.glo "BadNumber").ok K,
  (He.Fa.glo "RestError").ok K,
  PySem.W.keepIn K (.ref (He.ga K "is_integer")),
  PySem.W.keepIn K (.ref (He.ga K "is_between")),
  PySem.W.keepIn K (.ref (He.ga K "fits_modulus")),
  PySem.W.keepIn K (.ref (He.ga K "is_row")),
  PySem.W.keepIn K (.ref (He.ga K "first_odd")),
  PySem.W.keepIn K (.ref (He.ga K "beat_of")),
  PySem.W.keepIn K (.ref (He.ga K "shortest_of")),
  PySem.W.keepIn K (.ref (He.ga K "cycle_of")),
  PySem.W.keepIn K (.ref (He.ga K "binomial")),
  PySem.W.keepIn K (.ref (He.ga K "lead_of")),
  PySem.W.keepIn K (.ref (He.ga K "need_beat")),
  PySem.W.keepIn K (.ref (He.ga K "weighed")),
  PySem.W.keepIn K (.ref (He.ga K "coefs_of")),
  PySem.W.keepIn K (.ref (He.ga K "put_together")),
  PySem.W.keepIn K (.ref (He.ga K "put_together_ahead")),
  PySem.W.keepIn K (.ref (He.ga K "bench_of"))]
def ch3 (K : PySem.W.Frag) : List Bool := [
  PySem.W.keepIn K (.ref (He.ga K "_law_pen")),
  PySem.W.keepIn K (.ref (He.ga K "_law_draw")),
  PySem.W.keepIn K (.ref (He.ga K "_law_pick")),
  PySem.W.keepIn K (.ref (He.ga K "_law_heard")),
  PySem.W.keepIn K (.ref (He.ga K "_law_number")),
  PySem.W.keepIn K (.ref (He.ga K "_law_plain")),
  PySem.W.keepIn K (.ref (He.ga K "_law_run")),
  PySem.W.keepIn K (.ref (He.ga K "_law_beat")),
  PySem.W.keepIn K (.ref (He.ga K "_law_undone")),
  PySem.W.keepIn K (.ref (He.ga K "_law_walk")),
  PySem.W.keepIn K (.ref (He.ga K "_law_chosen")),
  PySem.W.keepIn K (.ref (He.ga K "_law_begun")),
  PySem.W.keepIn K (.ref (He.ga K "_law_gone")),
  PySem.W.keepIn K (.ref (He.ga K "_law_steps")),
  PySem.W.keepIn K (.ref (He.ga K "_law_is")),
  PySem.W.keepIn K (.ref (He.ga K "_law_put")),
  PySem.W.keepIn K (.ref (He.ga K "_law_deed")),
  PySem.W.keepIn K (.ref (He.ga K "_law_tried_so")),
  PySem.W.keepIn K (.ref (He.ga K "_law_right")),
  PySem.W.keepIn K (.ref (He.ga K "law"))]
def ch4 (K : PySem.W.Frag) : List Bool := [
  (He.Fa.free "isinstance").ok K,
  (He.Fa.free "int").ok K,
  (He.Fa.free "bool").ok K,
  (He.Fa.free "list").ok K,
  (He.Fa.free "tuple").ok K,
  (He.Fa.free "len").ok K,
  (He.Fa.free "range").ok K,
  (He.Fa.free "all").ok K,
  (He.Fa.free "sum").ok K,
  (He.Fa.free "enumerate").ok K,
  (He.Fa.free "abs").ok K,
  (He.Fa.free "min").ok K,
  (He.Fa.free "repr").ok K,
  (He.Fa.free "ValueError").ok K,
  (He.Fa.int "MOST_MODULUS" 1000000000000000000000000000000).ok K,
  (He.Fa.int "MOST_NUMBER" 1000000000000000000000000000000).ok K,
  (He.Fa.int "MOST_NUMBERS" 60).ok K,
  (He.Fa.int "MOST_STAGES" 6).ok K,
  (He.Fa.int "MOST_STEPS" 2000).ok K,
  (He.Fa.int "MOST_LEAP" 1000000000000000000000000000000).ok K]
def ch5 (K : PySem.W.Frag) : List Bool := [
  isCB K (He.ga K "Prompt"),
  (He.Fa.mkr "Prompt").ok K,
  isCB K (He.ga K "Late"),
  (He.Fa.mkr "Late").ok K,
  isCB K (He.ga K "Cycle"),
  (He.Fa.mkr "Cycle").ok K,
  isCB K (He.ga K "Run"),
  (He.Fa.mkr "Run").ok K,
  isCB K (He.ga K "Standing"),
  (He.Fa.mkr "Standing").ok K,
  isCB K (He.ga K "Bench"),
  (He.Fa.mkr "Bench").ok K,
  (He.Fa.noat "Prompt" "stages").ok K,
  (He.Fa.noat "Prompt" "modulus").ok K,
  (He.Fa.noat "Late" "stages").ok K,
  (He.Fa.noat "Late" "modulus").ok K,
  (He.Fa.noat "Cycle" "numbers").ok K,
  (He.Fa.noat "Run" "chain").ok K,
  (He.Fa.noat "Run" "lead").ok K,
  (He.Fa.noat "Run" "starts").ok K]
def ch6 (K : PySem.W.Frag) : List Bool := [
  (He.Fa.noat "Run" "tables").ok K,
  (He.Fa.noat "Standing" "own_rests").ok K,
  (He.Fa.noat "Standing" "own_carried").ok K,
  (He.Fa.noat "Standing" "cycle").ok K,
  (He.Fa.noat "Standing" "gone").ok K,
  (He.Fa.noat "Standing" "sum_given").ok K,
  (He.Fa.noat "Standing" "words").ok K,
  (He.Fa.noat "Standing" "ahead").ok K,
  (He.Fa.noat "Bench" "chain").ok K,
  (He.Fa.noat "Bench" "standing").ok K,
  (He.Fa.meth "Prompt" "need_fit").ok K,
  (He.Fa.meth "Prompt" "handed").ok K,
  (He.Fa.meth "Prompt" "step").ok K,
  (He.Fa.meth "Late" "handed").ok K,
  (He.Fa.meth "Run" "reckoned").ok K,
  (He.Fa.meth "Run" "table_of").ok K,
  (He.Fa.meth "Run" "rest_of").ok K,
  (He.Fa.meth "Run" "carries_at").ok K,
  (He.Fa.meth "Run" "rests_at").ok K,
  (He.Fa.meth "Run" "inputs_to").ok K]
def ch7 (K : PySem.W.Frag) : List Bool := [
  (He.Fa.meth "Run" "prompted").ok K,
  (He.Fa.meth "Standing" "changed").ok K,
  (He.Fa.meth "Standing" "counted").ok K,
  (He.Fa.meth "Standing" "behind").ok K,
  (He.Fa.meth "Bench" "set_lead").ok K,
  (He.Fa.meth "Bench" "run").ok K,
  (He.Fa.meth "Bench" "go").ok K,
  (He.Fa.meth "Bench" "step").ok K,
  (He.Fa.meth "Bench" "leap").ok K,
  (He.Fa.meth "Bench" "led").ok K,
  (He.Fa.meth "Bench" "told_by").ok K,
  (He.Fa.meth "Bench" "undo").ok K,
  (He.Fa.meth "Bench" "tried").ok K,
  (He.Fa.meth "Bench" "twin").ok K,
  propB K (He.ga K "Cycle") "amount",
  propB K (He.ga K "Bench") "now",
  propB K (He.ga K "Bench") "given",
  propB K (He.ga K "Bench") "rests",
  propB K (He.ga K "Bench") "carried",
  propB K (He.ga K "Bench") "past"]
def ch8 (K : PySem.W.Frag) : List Bool := [
  propB K (He.ga K "Bench") "lead_now",
  smB K (He.ga K "Cycle") "of",
  decide (PySem.W.kitOne K (.ref (He.ga K "Cycle")) (.type "int") = some false),
  decide (PySem.W.kitOne K (.ref (He.ga K "Cycle")) (.ref (He.ga K "Cycle")) = some true),
  decide (PySem.W.kitOne K (.ref (He.ga K "Run")) (.ref (He.ga K "Run")) = some true),
  decide (PySem.W.kitOne K (.ref (He.ga K "Prompt")) (.ref (He.ga K "Prompt")) = some true),
  decide (PySem.W.kitOne K (.ref (He.ga K "Late")) (.ref (He.ga K "Prompt")) = some false),
  decide (PySem.W.kitAny K (.ref (He.ga K "Prompt")) [.ref (He.ga K "Prompt"), .ref (He.ga K "Late")] = some true),
  decide (PySem.W.kitAny K (.ref (He.ga K "Late")) [.ref (He.ga K "Prompt"), .ref (He.ga K "Late")] = some true),
  He.eqO (PySem.W.findIn K (.ref (He.ga K "Cycle")) "__len__") (some (some (.ref (He.ma K (He.ga K "Cycle") "__len__")))),
  PySem.W.isFn K (.ref (He.ma K (He.ga K "Cycle") "__len__")),
  He.eqO (PySem.W.findIn K (.ref (He.ga K "Cycle")) "__getitem__") (some (some (.ref (He.ma K (He.ga K "Cycle") "__getitem__")))),
  PySem.W.isFn K (.ref (He.ma K (He.ga K "Cycle") "__getitem__")),
  He.eqO (PySem.W.findIn K (.ref (He.ga K "Cycle")) "__lshift__") (some (some (.ref (He.ma K (He.ga K "Cycle") "__lshift__")))),
  PySem.W.isFn K (.ref (He.ma K (He.ga K "Cycle") "__lshift__")),
  He.eqO (PySem.W.findIn K (.ref (He.ga K "Cycle")) "__eq__") (some (some (.ref (He.ma K (He.ga K "Cycle") "__eq__")))),
  PySem.W.isFn K (.ref (He.ma K (He.ga K "Cycle") "__eq__")),
  He.eqO (PySem.W.findIn K (.ref (He.ga K "Bench")) "__len__") (some (some (.ref (He.ma K (He.ga K "Bench") "__len__")))),
  PySem.W.isFn K (.ref (He.ma K (He.ga K "Bench") "__len__")),
  He.eqO (PySem.W.findIn K (.ref (He.ga K "Bench")) "__getitem__") (some (some (.ref (He.ma K (He.ga K "Bench") "__getitem__"))))]
def ch9 (K : PySem.W.Frag) : List Bool := [
  PySem.W.isFn K (.ref (He.ma K (He.ga K "Bench") "__getitem__")),
  He.eqO (PySem.W.findIn K (.ref (He.ga K "Bench")) "__setitem__") (some (some (.ref (He.ma K (He.ga K "Bench") "__setitem__")))),
  PySem.W.isFn K (.ref (He.ma K (He.ga K "Bench") "__setitem__")),
  PySem.W.fnIn K (He.ma K (He.ga K "Cycle") "__getitem__"),
  PySem.W.fnIn K (He.ma K (He.ga K "Bench") "__getitem__"),
  PySem.W.selfFirst K (He.ga K "Cycle"),
  He.eqO (PySem.W.findIn K (.ref (He.ga K "Cycle")) "__rlshift__") (some none),
  (PySem.W.findIn K (.type "int") "__lshift__").isSome,
  (PySem.W.findIn K (.type "int") "__rlshift__").isSome,
  decide (PySem.W.subIn K (.type "int") (.ref (He.ga K "Cycle")) = some false),
  He.eqO (PySem.W.findIn K (.ref (He.ga K "Cycle")) "__ne__") (some (some (.builtin "object.__ne__"))),
  PySem.W.noSeq K (He.ga K "Bench")]
def wdB (K : PySem.W.Frag) : Bool := (ch0 K).all id && ((ch1 K).all id && ((ch2 K).all id && ((ch3 K).all id && ((ch4 K).all id && ((ch5 K).all id && ((ch6 K).all id && ((ch7 K).all id && ((ch8 K).all id && ((ch9 K).all id)))))))))
def defs : List DefA := [
  ⟨fun K => (He.ga K "is_integer"), "is_integer", "is_integer", s_is_integer, []⟩,
  ⟨fun K => (He.ga K "is_between"), "is_between", "is_between", s_is_between, []⟩,
  ⟨fun K => (He.ga K "fits_modulus"), "fits_modulus", "fits_modulus", s_fits_modulus, []⟩,
  ⟨fun K => (He.ga K "is_row"), "is_row", "is_row", s_is_row, []⟩,
  ⟨fun K => (He.ga K "first_odd"), "first_odd", "first_odd", s_first_odd, []⟩,
  ⟨fun K => (He.ga K "binomial"), "binomial", "binomial", s_binomial, []⟩,
  ⟨fun K => (He.ga K "_law_chosen"), "_law_chosen", "_law_chosen", s__law_chosen, []⟩,
  ⟨fun K => (He.ga K "weighed"), "weighed", "weighed", s_weighed, []⟩,
  ⟨fun K => (He.ga K "coefs_of"), "coefs_of", "coefs_of", s_coefs_of, []⟩,
  ⟨fun K => (He.ma K (He.ga K "Prompt") "handed"), "handed", "Chain.handed", s_Chain_handed, []⟩,
  ⟨fun K => (He.ma K (He.ga K "Late") "handed"), "handed", "Late.handed", s_Late_handed, []⟩,
  ⟨fun K => (He.ma K (chC K false) "__init__"), "__init__", "Chain.__init__", s_Chain___init__, []⟩,
  ⟨fun K => (He.ma K (chC K true) "__init__"), "__init__", "Chain.__init__", s_Chain___init__, []⟩,
  ⟨fun K => (He.ga K "beat_of"), "beat_of", "beat_of", s_beat_of, []⟩,
  ⟨fun K => (He.ma K (He.ga K "Prompt") "need_fit"), "need_fit", "Chain.need_fit", s_Chain_need_fit, []⟩,
  ⟨fun K => (He.ma K (He.ga K "Prompt") "step"), "step", "Chain.step", s_Chain_step, []⟩,
  ⟨fun K => (He.ga K "shortest_of"), "shortest_of", "shortest_of", s_shortest_of, []⟩,
  ⟨fun K => (He.ma K (He.ga K "Cycle") "__init__"), "__init__", "Cycle.__init__", s_Cycle___init__, []⟩,
  ⟨fun K => (He.ga K "cycle_of"), "cycle_of", "cycle_of", s_cycle_of, []⟩,
  ⟨fun K => (stG K (He.ga K "Cycle") "of"), "of", "Cycle.of", s_Cycle_of, []⟩,
  ⟨fun K => (prG K (He.ga K "Cycle") "amount"), "amount", "Cycle.amount", s_Cycle_amount, []⟩,
  ⟨fun K => (He.ma K (He.ga K "Cycle") "__len__"), "__len__", "Cycle.__len__", s_Cycle___len__, []⟩,
  ⟨fun K => (He.ma K (He.ga K "Cycle") "__getitem__"), "__getitem__", "Cycle.__getitem__", s_Cycle___getitem__, []⟩,
  ⟨fun K => (He.ma K (He.ga K "Cycle") "__lshift__"), "__lshift__", "Cycle.__lshift__", s_Cycle___lshift__, []⟩,
  ⟨fun K => (He.ma K (He.ga K "Cycle") "__eq__"), "__eq__", "Cycle.__eq__", s_Cycle___eq__, []⟩,
  ⟨fun K => (He.ga K "lead_of"), "lead_of", "lead_of", s_lead_of, []⟩,
  ⟨fun K => (He.ga K "need_beat"), "need_beat", "need_beat", s_need_beat, []⟩,
  ⟨fun K => (He.ma K (He.ga K "Run") "table_of"), "table_of", "Run.table_of", s_Run_table_of, []⟩,
  ⟨fun K => (He.ma K (He.ga K "Run") "reckoned"), "reckoned", "Run.reckoned", s_Run_reckoned, []⟩,
  ⟨fun K => (He.ma K (He.ga K "Run") "__init__"), "__init__", "Run.__init__", s_Run___init__, []⟩,
  ⟨fun K => (He.ma K (He.ga K "Run") "rest_of"), "rest_of", "Run.rest_of", s_Run_rest_of, []⟩,
  ⟨fun K => (He.ma K (He.ga K "Run") "rests_at"), "rests_at", "Run.rests_at", s_Run_rests_at, []⟩,
  ⟨fun K => (He.ma K (He.ga K "Run") "carries_at"), "carries_at", "Run.carries_at", s_Run_carries_at, []⟩,
  ⟨fun K => (He.ma K (He.ga K "Run") "inputs_to"), "inputs_to", "Run.inputs_to", s_Run_inputs_to, []⟩,
  ⟨fun K => (He.ma K (He.ga K "Run") "prompted"), "prompted", "Run.prompted", s_Run_prompted, []⟩,
  ⟨fun K => (He.ma K (He.ga K "Standing") "__init__"), "__init__", "Standing.__init__", s_Standing___init__, []⟩,
  ⟨fun K => (He.ma K (He.ga K "Standing") "changed"), "changed", "Standing.changed", s_Standing_changed, []⟩,
  ⟨fun K => (He.ma K (He.ga K "Standing") "counted"), "counted", "Standing.counted", s_Standing_counted, []⟩,
  ⟨fun K => (He.ma K (He.ga K "Standing") "behind"), "behind", "Standing.behind", s_Standing_behind, []⟩,
  ⟨fun K => (He.ga K "put_together"), "put_together", "put_together", s_put_together, []⟩,
  ⟨fun K => (He.ga K "put_together_ahead"), "put_together_ahead", "put_together_ahead", s_put_together_ahead, []⟩,
  ⟨fun K => (He.ma K (He.ga K "Bench") "__init__"), "__init__", "Bench.__init__", s_Bench___init__, []⟩,
  ⟨fun K => (prG K (He.ga K "Bench") "now"), "now", "Bench.now", s_Bench_now, []⟩,
  ⟨fun K => (prG K (He.ga K "Bench") "given"), "given", "Bench.given", s_Bench_given, []⟩,
  ⟨fun K => (prG K (He.ga K "Bench") "rests"), "rests", "Bench.rests", s_Bench_rests, []⟩,
  ⟨fun K => (prG K (He.ga K "Bench") "carried"), "carried", "Bench.carried", s_Bench_carried, []⟩,
  ⟨fun K => (prG K (He.ga K "Bench") "past"), "past", "Bench.past", s_Bench_past, []⟩,
  ⟨fun K => (prG K (He.ga K "Bench") "lead_now"), "lead_now", "Bench.lead_now", s_Bench_lead_now, []⟩,
  ⟨fun K => (He.ma K (He.ga K "Bench") "__len__"), "__len__", "Bench.__len__", s_Bench___len__, []⟩,
  ⟨fun K => (He.ma K (He.ga K "Bench") "run"), "run", "Bench.run", s_Bench_run, []⟩,
  ⟨fun K => (He.ma K (He.ga K "Bench") "set_lead"), "set_lead", "Bench.set_lead", s_Bench_set_lead, []⟩,
  ⟨fun K => (He.ma K (He.ga K "Bench") "__getitem__"), "__getitem__", "Bench.__getitem__", s_Bench___getitem__, []⟩,
  ⟨fun K => (He.ma K (He.ga K "Bench") "__setitem__"), "__setitem__", "Bench.__setitem__", s_Bench___setitem__, []⟩,
  ⟨fun K => (He.ma K (He.ga K "Bench") "go"), "go", "Bench.go", s_Bench_go, []⟩,
  ⟨fun K => (He.ma K (He.ga K "Bench") "leap"), "leap", "Bench.leap", s_Bench_leap, []⟩,
  ⟨fun K => (He.ma K (He.ga K "Bench") "undo"), "undo", "Bench.undo", s_Bench_undo, []⟩,
  ⟨fun K => (He.ga K "bench_of"), "bench_of", "bench_of", s_bench_of, []⟩,
  ⟨fun K => (He.ma K (He.ga K "Bench") "twin"), "twin", "Bench.twin", s_Bench_twin, []⟩,
  ⟨fun K => (He.ga K "_law_draw"), "_law_draw", "_law_draw", s__law_draw, []⟩,
  ⟨fun K => (He.ga K "_law_pick"), "_law_pick", "_law_pick", s__law_pick, []⟩,
  ⟨fun K => (He.ga K "_law_number"), "_law_number", "_law_number", s__law_number, []⟩,
  ⟨fun K => (He.ga K "_law_plain"), "_law_plain", "_law_plain", s__law_plain, []⟩,
  ⟨fun K => (He.ga K "_law_run"), "_law_run", "_law_run", s__law_run, []⟩,
  ⟨fun K => (He.ga K "_law_beat"), "_law_beat", "_law_beat", s__law_beat, []⟩,
  ⟨fun K => (He.ga K "_law_undone"), "_law_undone", "_law_undone", s__law_undone, []⟩,
  ⟨fun K => (He.ga K "_law_walk"), "_law_walk", "_law_walk", s__law_walk, []⟩,
  ⟨fun K => (He.ga K "_law_begun"), "_law_begun", "_law_begun", s__law_begun, []⟩,
  ⟨fun K => (He.ga K "_law_gone"), "_law_gone", "_law_gone", s__law_gone, []⟩,
  ⟨fun K => (He.ga K "_law_steps"), "_law_steps", "_law_steps", s__law_steps, []⟩,
  ⟨fun K => (He.ma K (He.ga K "Bench") "told_by"), "told_by", "Bench.told_by", s_Bench_told_by, []⟩,
  ⟨fun K => (He.ma K (He.ga K "Bench") "led"), "led", "Bench.led", s_Bench_led, []⟩,
  ⟨fun K => (He.ma K (He.ga K "Bench") "tried"), "tried", "Bench.tried", s_Bench_tried, []⟩,
  ⟨fun K => (He.ga K "_law_put"), "_law_put", "_law_put", s__law_put, []⟩,
  ⟨fun K => (He.ga K "_law_deed"), "_law_deed", "_law_deed", s__law_deed, []⟩,
  ⟨fun K => (He.ga K "_law_is"), "_law_is", "_law_is", s__law_is, []⟩,
  ⟨fun K => (He.ga K "_law_heard"), "_law_heard", "_law_heard", s__law_heard, []⟩,
  ⟨fun K => (He.ga K "_law_tried_so"), "_law_tried_so", "_law_tried_so", s__law_tried_so, []⟩,
  ⟨fun K => (He.ga K "_law_right"), "_law_right", "_law_right", s__law_right, []⟩,
  ⟨fun K => (He.ga K "_law_pen"), "_law_pen", "_law_pen", s__law_pen, []⟩,
  ⟨fun K => (He.ga K "law"), "law", "law", s_law, []⟩,
  ⟨fun K => (He.ma K (He.ga K "Bench") "step"), "step", "Bench.step", s_Bench_step, [.int 1]⟩]
abbrev s_BN : Stmt := clsS 15 0
abbrev Pz : Program := PySem.Challenge.pw_restchains_k88_whole_benches_by_single_b
abbrev bnC (K : PySem.W.Frag) : Addr := He.ga K "BadNumber"
abbrev bnF (K : PySem.W.Frag) : Addr := He.ma K (He.ga K "BadNumber") "__init__"
def erB (K : PySem.W.Frag) : Bool := ecB K (bnC K) && (He.eqO (PySem.W.findIn K (.ref (bnC K)) "value") (some none) && ((He.Fa.exm "BadNumber" "RestError" true).ok K && (decide (PySem.W.kitOne K (.ref (bnC K)) (.ref (bnC K)) = some true) && decide (PySem.W.kitOne K (.ref (bnC K)) (.type "ValueError") = some true))))
def bnB (K : PySem.W.Frag) : Bool := oxB K (bnC K) && (He.eqO (PySem.W.findIn K (.ref (bnC K)) "__init__") (some (some (.ref (bnF K)))) && (decide (PySem.W.typeIn K (.ref (bnF K)) = some (.type "function")) && (supB K Pz.main.file (bnF K) (bnC K) "BadNumber.__init__" && (He.Fa.free "super").ok K)))
def bnV : FnV5 := some ("__init__", "BadNumber.__init__", defArgs s_BN, .stmts (defBody s_BN), defScope s_BN)
def tbOf (K : PySem.W.Frag) (x : Str) : Addr × Addr := (cdOf K (He.ga K x), He.tabOf K (cdOf K (He.ga K x)))
def tbB (K : PySem.W.Frag) (x : Str) : Bool := PySem.W.codeHdIn K (tbOf K x).1 (tbOf K x).2 && (K.lookup (tbOf K x).2).isNone
def emB (g : Addr → Option Obj) (a : Addr) : Bool := match g a with
  | some o => He.emptyTab o
  | none => false
end Hw
set_option maxHeartbeats 0
namespace Hw
open PySem PySem.W PySem.Calls PyProof.Rows L2 Tx
abbrev Rw : OpenRow := OpenLaw.row PySem.Challenge.rw_restchains_k88_whole_benches_by_single_b
abbrev qv : Program := view Rw.prog [95]
def names : List PySem.Str := (["_wall", "MOST_MODULUS", "MOST_DIGITS", "is_integer", "is_between", "fits_modulus", "is_row", "first_odd", "is_written", "RestError", "BadInput", "Refused", "BadModulus", "BadNumber", "BadBeat", "BadStage", "BadStart", "BadSum", "BadCycle", "BadChain", "BadRun", "BadBench", "BadText", "Unlike", "NoDeed", "BadRule", "TooMany", "Words", "MOST_STAGES", "Chain"] : List PySem.Str) ++ (["Prompt", "Late", "beat_of", "take_chain", "MOST_NUMBER", "MOST_NUMBERS", "shortest_of", "Cycle", "cycle_of", "common_length", "added", "take_numbers_of", "written_cycle", "binomial", "MOST_COEFS", "trimmed", "differences", "value_of", "moved", "added_coefs", "coefs_read", "is_single", "Sum", "MOST_BEATS", "lead_of", "need_beat", "weighed", "coefs_of", "Run", "MOST_STEPS"] : List PySem.Str) ++ (["MOST_LEAP", "Standing", "put_together", "Bench", "put_together_ahead", "bench_of", "_law_pen", "_law_draw", "_law_pick", "_law_heard", "_law_number", "_law_plain", "_law_run", "_law_beat", "_law_undone", "_law_walk", "_law_chosen", "_law_begun", "_law_gone", "_law_steps", "_law_is", "_law_put", "_law_deed", "_law_tried_so", "_law_right"] : List PySem.Str)
def asW : List Addr := [27, 28, 34, 35, 41, 42, 48, 49, 55, 56, 70, 71, 83, 84, 123, 134, 135, 137, 138, 494, 495, 511, 512, 518, 519, 525, 526, 556, 557, 570, 571, 586, 587, 589, 590, 598, 599, 610, 611, 624, 625, 631, 632, 634, 651, 652, 653, 659, 660, 673, 674, 685, 686, 718, 719, 726, 727, 737, 738, 768, 769, 1018, 1019, 1025, 1026, 1030, 1031, 1035, 1036, 1049, 1050, 1054, 1055, 1059, 1060, 1090, 1091, 1118, 1119, 1123, 1124, 1171, 1172, 1211, 1212, 1226, 1227, 1244, 1245, 1251, 1252, 1258, 1259, 1265, 1266, 1268, 1269, 1277, 1278, 1289, 1290, 1296, 1297, 1298, 1304, 1305, 1306, 1312, 1313, 1314, 1320, 1321, 1322, 1328, 1329, 1330, 1336, 1337, 1347, 1353, 1354, 1360, 1361, 1367, 1368, 1381, 1382, 1388, 1389, 1402, 1403, 1404, 1410, 1411, 1415, 1416, 1422, 1423, 1429, 1430, 1436, 1437, 1450, 1451, 1457, 1458, 1460, 1461, 1469, 1470, 1474, 1475, 1481, 1482, 1488, 1489, 1495, 1496, 1502, 1503, 1509, 1510, 1514, 1515, 1521, 1522, 1528, 1529, 1535, 1536, 1542, 1543, 1549, 1550, 1554, 1555, 1561, 1562, 1568, 1569, 1573, 1574, 1580, 1581, 1585, 1586, 1592, 1593, 1599, 1600, 1606, 1607, 2, 3]
noncomputable abbrev lk1 (w : World) (s : SharedT) : Bool := HandSHeadRun.looksF Rw.prog (boot_heap w.params) s.abs
noncomputable abbrev lk2 (s : SharedT) := HandSHeadRun.seenQ qv names (importedModules Rw.prog.main.body) (fun s => xlAt qv [] s && recOk Rw.toRowW.records s) s.abs
def okS (g : Addr → Option Obj) (K : PySem.W.Frag) : Bool := erB K && (bnB K && (tbB K "_law_deed" && (tbB K "_law_tried_so" && (decide ((tbOf K "_law_deed").2 ≠ (tbOf K "_law_tried_so").2) && (emB g (tbOf K "_law_deed").2 && emB g (tbOf K "_law_tried_so").2)))))
abbrev gk {β : Type} (k : PySem.W.Frag → β) (s : SharedT) : β := bld (HandSHeadRun.getT s) k asW []
noncomputable abbrev EX {γ : Type} (f : SharedT → γ) (w : World) (os : OsState) : Option γ := Hx.endX f Rw.prog w os
theorem run1 (w : World) (os : OsState) : EX (fun s => (lk1 w s, lk2 s, gk (okS (HandSHeadRun.getT s)) s)) w os = some (true, openGood qv names, true) := by kernel_rfl
theorem run2 (w : World) (os : OsState) : EX (fun s => (gk wdB s, gk (fun K => defs.all fun d => d.ok K) s, gk (fun K => fnV K (bnF K) :: defs.map fun d => fnV K (d.at_ K)) s)) w os = some (true, true, bnV :: defs.map DefA.val) := by kernel_rfl
end Hw
end
section
/-! Own rules at the layer's level: operators, items, length, static methods of own classes; stars at makings. -/
namespace Lo
open PySem PySem.Spec PyProof.Rows L2 StX
section
variable {X : Cx} {CX : CXT} {pins : List (Addr × Obj)} {σ : L2.St} {H : Hp} {s : Shared} {a C dx p g : Addr} {fs : List (Str × V)} {f m x : Str} {n k : Nat} {sp : Sp} {E : XK} {e o i : Expr} {es : List Expr} {ta te ti to : TE} {t : TA} {pos apos p1 sp_ : Pos}
theorem ins_inst (I : Inv X pins σ H s) (h : H a = some (.ins C dx fs)) : ∃ od, PySem.W.InstAt s.heap a (PySem.W.instObj C dx) C (some od) := by
  obtain ⟨mA, O, _⟩ := ins_get I.hok h
  obtain ⟨od, J, _⟩ := O.look
  exact ⟨od, J⟩
/-- x << i, the left an instance of the class at C, the right an int -/
def rShl (C : Addr) (sp : Sp) (E : XK) : R2 := fun x y H Q => ∃ a dx fs j, x = .ref a ∧ y = .int j ∧ H a = some (.ins C dx fs) ∧ sp [x, y] H Q E
theorem op_shlOwn (hc : PySem.W.selfFirst X.K C = true) (hs : PySem.W.findIn X.K (.ref C) "__lshift__" = some (some (.ref g))) (hf : PySem.W.isFn X.K (.ref g) = true) (hr' : PySem.W.findIn X.K (.ref C) "__rlshift__" = some none)
    {fo ro : Option Value} (h1 : PySem.W.findIn X.K (.type "int") "__lshift__" = some fo) (h2 : PySem.W.findIn X.K (.type "int") "__rlshift__" = some ro) (hsub : PySem.W.subIn X.K (.type "int") (.ref C) = some false)
    (F : FnR X.prog X.w X.K X.mg X.base CX n g sp) (hr : Room n X.A) (hx : Passes CX X E) : OpR X (binaryOp .LShift) (rShl C sp E) := by
  intro pins s σ H x y v u Q I rx ry h
  obtain ⟨a, dx, fs, j, rfl, rfl, ha, q⟩ := h
  cases (show v = Value.ref a from rx)
  obtain ⟨tk, rfl⟩ := (show ∃ t, u = Value.int j t from ry)
  obtain ⟨od, J⟩ := ins_inst I ha
  obtain ⟨m, hF⟩ := I.fr
  refine PySem.W.ksp_binT (T := "int") (op := .LShift) hF I.ok.mod.kin J rfl hc hs hf hr' (.inl rfl) h1 h2 hsub ?_
  refine wpAny_mono (wpAny_call (run_fnR (us := [.ref a, .int j tk]) (vs := [.ref a, .int j]) F hr hx I (.cons rfl (.cons ⟨tk, rfl⟩ .nil)) q)) (fun w s' z => ?_) fun _ _ x => x
  obtain ⟨z', H', I', rz, qz⟩ := z
  exact SlX.cmpback rz ⟨z', H', I', rz, qz⟩
/-- o[i], o an instance of the class at C with a __getitem__ of its own -/
def tIxO (C : Addr) (sp : Sp) (E : XK) (to ti : TE) : TE := fun σ H Q => to σ H fun x H1 => ti σ H1 fun y H2 => ∃ a dx fs, x = .ref a ∧ H2 a = some (.ins C dx fs) ∧ sp [x, y] H2 Q E
theorem pe_ixO (hs : PySem.W.findIn X.K (.ref C) "__getitem__" = some (some (.ref g))) (hf : PySem.W.isFn X.K (.ref g) = true) (hfi : PySem.W.fnIn X.K g = true) (F : FnR X.prog X.w X.K X.mg X.base CX n g sp) (hr : Room (n + 1) X.A) (hx : Passes CX X E)
    (he : ∀ (H : Hp) (s : Shared) (e : Value) (s' : Shared), CX X.stack H s E e s' → False)
    (ho : PE X o to) (hi : PE X i ti) (hsl : ∀ (a : Addr) (v : Value), subscripted i true (.ref a) v = runValue (.builtin "lifetime.subscript" ⟨[.ref a, v], []⟩) := by intro _ _; with_unfolding_all rfl) : PE X (.Subscript o i pos) (tIxO C sp E to ti) := by
  refine ⟨fun pins s σ H Q I h => ?_⟩
  refine Subscript_ (binT ho hi I h fun v u s2 x y H2 I2 rx ry q => ?_)
  obtain ⟨a, dx, fs, rfl, ha, q⟩ := q
  cases (show v = Value.ref a from rx)
  obtain ⟨od, J⟩ := ins_inst I2 ha
  obtain ⟨m, hF⟩ := I2.fr
  refine PySem.W.sub_K hF I2.ok.mod.kin J hs hfi hf ?_ (hsl a u)
  refine wpAny_call (codeAny_mono (F X.A.in1 X.stack s2 H2 [.ref a, u] [.ref a, y] Q E hr.in1 I2.env0.in1 (.cons rfl (.cons ry .nil)) q) fun r s' hq => ?_)
  cases r with
  | error er => exact (he _ _ _ _ hq).elim
  | ok fl =>
    cases fl with
    | ret u => exact I2.after hq
    | next => exact False.elim hq
    | brk => exact False.elim hq
    | cont => exact False.elim hq
/-- o[i] = v by an own __setitem__ -/
def rSetO (C : Addr) (sp : Sp) (E : XK) : TSet := fun o i v H Q => ∃ a dx fs, o = .ref a ∧ H a = some (.ins C dx fs) ∧ sp [o, i, v] H (fun _ H' => Q H') E
theorem set_own (hq : PySem.W.noSeq X.K C = true) (hs : PySem.W.findIn X.K (.ref C) "__setitem__" = some (some (.ref g))) (hf : PySem.W.isFn X.K (.ref g) = true) (F : FnR X.prog X.w X.K X.mg X.base CX n g sp) (hr : Room n X.A) (hx : Passes CX X E) : PSet X (rSetO C sp E) := by
  intro pins s σ H o i v ov iv u Q I ro ri rv h
  obtain ⟨a, dx, fs, rfl, ha, q⟩ := h
  cases (show ov = Value.ref a from ro)
  obtain ⟨od, J⟩ := ins_inst I ha
  obtain ⟨m, hF⟩ := I.fr
  refine PySem.W.ksp_setItem hF I.ok.mod.kin J hq hs hf ?_
  refine wpAny_mono (wpAny_call (run_fnR (us := [.ref a, iv, u]) (vs := [.ref a, i, v]) F hr hx I (.cons rfl (.cons ri (.cons rv .nil))) q)) (fun w s' z => ?_) fun _ _ x => x
  obtain ⟨z', H', I', rz, qz⟩ := z
  exact ⟨H', I', qz⟩
/-- len(o) by an own __len__ -/
def rLenO (C : Addr) (sp : Sp) (E : XK) : List V → Hp → VK → Prop := fun xs H Q => ∃ a dx fs, xs = [V.ref a] ∧ H a = some (.ins C dx fs) ∧ sp [.ref a] H (fun v H' => ∃ j : Int, v = .int j ∧ 0 ≤ j ∧ j < 2 ^ 63 ∧ Q (.int j) H') E
theorem call_lenO (hs : PySem.W.findIn X.K (.ref C) "__len__" = some (some (.ref g))) (hf : PySem.W.isFn X.K (.ref g) = true) (F : FnR X.prog X.w X.K X.mg X.base CX n g sp) (hr : Room (n + 1) X.A) (he : ∀ (H : Hp) (s : Shared) (e : Value) (s' : Shared), CX X.stack H s E e s' → False) :
    CallR X (.builtin "len") (rLenO C sp E) := by
  intro pins s σ H xs us Q I r h
  obtain ⟨a, dx, fs, rfl, ha, q⟩ := h
  obtain ⟨u, rfl, ru⟩ := vals1 r
  cases (show u = Value.ref a from ru)
  obtain ⟨od, J⟩ := ins_inst I ha
  obtain ⟨m, hF⟩ := I.fr
  refine PySem.W.len_K hF I.ok.mod.kin J hs hf ?_
  refine wpAny_call (codeAny_mono (F X.A.in1 X.stack s H [.ref a] [.ref a] _ E hr.in1 I.env0.in1 (.cons rfl .nil) q) fun r s' hq => ?_)
  cases r with
  | error er => exact (he _ _ _ _ hq).elim
  | ok fl =>
    cases fl with
    | ret u =>
      obtain ⟨v, H', I3, rv, j, ej, j0, j1, q3⟩ := I.after hq
      subst ej
      obtain ⟨t, e⟩ := (show ∃ t, u = Value.int j t from rv)
      subst e
      exact ⟨⟨j0, j1⟩, .int j, H', I3.tok _, ⟨_, rfl⟩, q3⟩
    | next => exact False.elim hq
    | brk => exact False.elim hq
    | cont => exact False.elim hq
/-- a static method off the class -/
structure SMet (K : PySem.W.Frag) (C : Addr) (mc : Value) (m : Str) (p g : Addr) : Prop where
  rd : PySem.W.readsIn K C mc = true
  ga : PySem.W.specialIn K (.ref C) "__getattribute__" = some (some (.builtin "type.__getattribute__"))
  at_ : PySem.W.findCls K (.ref C) mc m = some (.get (.builtin "staticmethod.__get__") (.ref p) .none (.ref C))
  rc : ∃ rest, PySem.W.recIn K p "staticmethod" = some (.ref g :: rest)
  kp : PySem.W.keepIn K (.ref g) = true
def tSMeth (C : Addr) (sp : Sp) (E : XK) (ta : TE) (t : TA) : TE := fun σ H Q => ta σ H fun x H1 => x = .ref C ∧ t σ H1 fun vs H2 => sp vs H2 Q E
theorem pe_smeth {mc : Value} {pl : Sem Bool} (he : PE X o ta) (c : SMet X.K C mc m p g) (F : FnR X.prog X.w X.K X.mg X.base CX k g sp) (hr : Room k X.A) (hx : Passes CX X E) (ha : PA X (e :: es) t)
    (hst : starEach (e :: es) X.env = (false, eval e X.env) :: starEach es X.env := by rfl) (hpl : (backTo pos (starEach es X.env)).any (·.1) = false := by rfl)
    (ht : eval (.Call (.Attribute o m apos) (e :: es) [] pos) X.env = (do
      let ov ← eval o X.env
      standAt apos.atName
      let (f, first) ← holding [ov] (getMethod ov m pl)
      callWith pos f first (backTo pos (starEach (e :: es) X.env)) (backToKw pos (keywordEach [] X.env))) := by rfl) :
    PE X (.Call (.Attribute o m apos) (e :: es) [] pos) (tSMeth C sp E ta t) := by
  refine ⟨fun pins s σ H Q I h => ?_⟩
  refine PySem.W.methodCall_KW (pl := pl) (thn (he.run pins s σ H _ I h) fun u s1 ⟨x, H1, I1, rx, ex, q⟩ => ?_) ht
  subst ex
  obtain rfl : u = Value.ref C := rx
  obtain ⟨rest, hp⟩ := c.rc
  refine PySem.W.method_cls I1.kIn c.ga (PySem.W.cls_bind I1.kIn c.rd c.at_ (wpAny_call (PySem.W.sm_get (s := { s1 with toks := s1.toks + 1 }) I1.kIn hp (PySem.W.handed_on rfl ?_))))
  have I2 := I1.tok (s1.toks + 1)
  refine PySem.W.callWith_K (first := []) (h₀ := X.base) I.ok.mod.kin c.kp (thn (ha.run pos pins _ σ H1 _ I2 q) fun us s2 ⟨vs, H2, I3, r, q2⟩ => ⟨I3.kIn, ?_⟩) hst hpl
  exact wpAny_call (run_fnR (us := us) (vs := vs) F hr hx I3 r q2)
/-- C(*y) -/
def tMakeS1 (K : PySem.W.Frag) (C : Addr) (sp : Sp) (E : XK) (te : TE) : TE := fun σ H Q => te σ H fun y H1 => ∃ a xs, y = V.ref a ∧ (SqT K H1 a xs ∨ SqL K H1 a xs) ∧ ∀ x dx, H1 x = Option.none → H1 dx = Option.none → dx ≠ x →
  sp (V.ref x :: xs) (upd (upd H1 dx (.own x)) x (.ins C dx [])) (fun v H2 => v = .non ∧ Q (.ref x) H2) E
theorem pe_makeS1 (M : Mk X.K C g) (F : FnR X.prog X.w X.K X.mg X.base CX k g sp) (hr : Room (k + 1) X.A) (hg : Gl X x) (hm : X.mg x = some (.ref C)) (hx : Passes CX X E) (he : PE X e te) (hdb : (x == ("__debug__" : Str)) = false := by decide)
    (hst : starEach [.Starred e sp_] X.env = [(true, eval e X.env)] := by rfl) : PE X (.Call (.Name x p1) [.Starred e sp_] [] pos) (tMakeS1 X.K C sp E te) := by
  refine ⟨fun pins s σ H Q I h => ?_⟩
  refine wpAny_Call_Name_kw (ld_glob I hg hm ?_ hdb)
  refine PySem.W.callWith_S (h₀ := X.base) I.ok.mod.kin M.kp (thn (he.run pins s σ H _ I h) fun v s1 ⟨y, H1, I1, ry, a, xs, ey, hxs, q⟩ => ?_) hst
  subst ey
  obtain rfl : v = Value.ref a := ry
  exact star_any I1 hxs fun us s2 I2 rv => ⟨I2.kIn, run_makeR M F hr hx I2 rv q⟩
/-- C(e, .., *y) -/
theorem pe_makeS2 (M : Mk X.K C g) (F : FnR X.prog X.w X.K X.mg X.base CX k g sp) (hr : Room (k + 1) X.A) (hg : Gl X x) (hm : X.mg x = some (.ref C)) (hx : Passes CX X E) (ha : PA X (e :: es) t) (hdb : (x == ("__debug__" : Str)) = false := by decide)
    (he : starEach (e :: es) X.env = (false, eval e X.env) :: starEach es X.env := by rfl) (hst : (backTo pos (starEach es X.env)).any (·.1) = true := by rfl) : PE X (.Call (.Name x p1) (e :: es) [] pos) (tMakeR C sp E t) := by
  refine ⟨fun pins s σ H Q I h => ?_⟩
  refine wpAny_Call_Name_kw (ld_glob I hg hm ?_ hdb)
  refine PySem.W.callWith_S2 (h₀ := X.base) I.ok.mod.kin M.kp (thn (ha.run pos pins s σ H _ I h) fun us s1 ⟨vs, H1, I1, r, q⟩ => ⟨I1.kIn, ?_⟩) he hst
  exact run_makeR M F hr hx I1 r q
end
end Lo
end
section
/-! Attribute targets; promises of the very state; a finally behind a body that raises nothing; != by an own __eq__. -/
namespace Lo
open PySem PySem.Spec PyProof.Rows L2 StX
section
variable {X : Cx} {CX : CXT} {pins : List (Addr × Obj)} {σ : L2.St} {H : Hp} {s : Shared} {a C dx p g : Addr} {fs : List (Str × V)} {f m x : Str} {n k : Nat} {sp : Sp} {E : XK} {e o i : Expr} {es : List Expr} {ta te ti to : TE} {t : TA} {pos apos p1 sp_ : Pos}
/-- (o.f, ..) = ..: an attribute among the targets -/
def gFld (K : PySem.W.Frag) (to : TE) (f : Str) : TG := fun v σ H Q => to σ H fun x H1 => ∃ a C dx fs, x = .ref a ∧ H1 a = some (.ins C dx fs) ∧ Cls K C ∧ NoAttr K C f ∧ fs.length < 1000 ∧ Q σ (upd H1 a (.ins C dx (putF f v fs)))
theorem pg_fld (ho : PE X o to) : PG X (.Attribute o f pos) (gFld X.K to f) := by
  refine ⟨fun pins s σ H v u Q I r h => ?_⟩
  rw [assign_Attribute]
  refine wpAny_bind (wpAny_holding (thn (ho.run pins s σ H _ I h) fun ov s1 ⟨x, H1, I1, rx, a, C, dx, fs, ex, ea, c, n, l, q⟩ => ?_))
  subst ex
  obtain rfl : ov = Value.ref a := rx
  refine wpAny_bind (wpAny_standAt (wpAny_bind (wpAny_holding (setattr_ok I1 ea c n l r fun s3 I3 => ?_))))
  exact wpAny_release ⟨σ, _, I3, q⟩
/-- try: body finally: suite, the body raising nothing, no return in it -/
def tFinThru (tb tf : TS) : TS := fun D σ H => tb { D with nx := fun σ1 H1 => tf D σ1 H1, rt := fun _ _ => False, bk := fun _ _ => False, ct := fun _ _ => False } σ H
theorem ps_fin_thru {body : List Stmt} {f0 : Stmt} {fs : List Stmt} {tb tf : TS} (hb : PSs X.nox body tb) (hf : PSs X.nox (f0 :: fs) tf) : PS X (.Try body [] [] (f0 :: fs) pos) (tFinThru tb tf) := by
  refine ⟨fun pins s σ H D I h => ?_⟩
  refine wpAny_Try_finally (wpAny_mono (hb.run pins s σ H _ (I.wish _) h) (fun fl s1 q => ?_) fun e s1 z => z.elim)
  have q' := q.unwish
  cases fl with
  | next =>
    obtain ⟨σ1, H1, I1, q1⟩ := q'
    refine wpAny_execs_nil ?_
    refine wpAny_mono (hf.run pins s1 σ1 H1 D (I1.wish _) q1) (fun g s2 q2 => ?_) fun _ _ z => False.elim z
    have q3 := q2.unwish
    cases g with
    | next => exact q3
    | ret v => exact q3
    | brk => exact q3
    | cont => exact q3
  | ret v =>
    obtain ⟨_, _, _, _, _, z⟩ := q'
    exact z.elim
  | brk =>
    obtain ⟨_, _, _, z⟩ := q'
    exact z.elim
  | cont =>
    obtain ⟨_, _, _, z⟩ := q'
    exact z.elim
end
/-! ### promises that may look at the state of the call -/
abbrev SpA := Around → Shared → Sp
def FnA (P : Program) (w : World) (K : PySem.W.Frag) (mg : Str → Option Value) (base : Heap) (CX : CXT) (k : Nat) (f : Addr) (sp : SpA) : Prop :=
  ∀ (A : Around) (outer : List Env) (s : Shared) (H : Hp) (us : List Value) (vs : List V) (Q : VK) (E : XK), Room k A → Env0 P w K mg base A outer s H → Vals vs us → sp A s vs H Q E →
    codeAny (model P w) A (.call (.ref f) ⟨us, []⟩) (CR CX outer P w H s Q E) s
section
variable {P : Program} {w : World} {K : PySem.W.Frag} {mg : Str → Option Value} {base : Heap} {CX : CXT} {j k : Nat} {f : Addr} {sp : SpA}
theorem FnA.mono (F : FnA P w K mg base CX j f sp) (h : j ≤ k) : FnA P w K mg base CX k f sp := fun A outer s H us vs Q E hr => F A outer s H us vs Q E (hr.mono h)
end
section
variable {X : Cx} {CX : CXT} {pins : List (Addr × Obj)} {σ : L2.St} {H : Hp} {s : Shared} {a C dx p g : Addr} {fs : List (Str × V)} {f m x : Str} {n k : Nat} {sp : SpA} {sp0 : Sp} {E : XK} {e o i : Expr} {es : List Expr} {ta te ti to : TE} {t : TA} {pos apos p1 sp_ : Pos}
theorem run_fnA {f : Addr} {Q : VK} {us : List Value} {vs : List V} (F : FnA X.prog X.w X.K X.mg X.base CX k f sp) (hr : Room k X.A) (hx : Passes CX X E) (I : Inv X pins σ H s) (r : Vals vs us) (h : sp X.A s vs H Q E) :
    codeAny (model X.prog X.w) X.A (.call (.ref f) ⟨us, []⟩) (fun r s' => match r with | .ok (.ret v) => EP X pins σ Q v s' | .ok _ => False | .error e => X.xe e s') s := by
  refine codeAny_mono (F X.A X.stack s H us vs Q E hr I.env0 r h) fun r s' hq => ?_
  cases r with
  | error e => exact hx pins σ H s e s' I hq
  | ok fl =>
    cases fl with
    | ret u => exact I.after hq
    | next => exact False.elim hq
    | brk => exact False.elim hq
    | cont => exact False.elim hq
/-- x(e, ..), x a def of the module -/
theorem pe_callA {f : Addr} (F : FnA X.prog X.w X.K X.mg X.base CX k f sp) (hs : ∀ pins s σ H vs Q, Inv X pins σ H s → sp0 vs H Q E → sp X.A s vs H Q E) (hr : Room k X.A) (hg : Gl X x) (hm : X.mg x = some (.ref f)) (hk : PySem.W.keepIn X.K (.ref f) = true) (hx : Passes CX X E) (ha : PA X (e :: es) t)
    (hd : (x == ("__debug__" : Str)) = false := by decide) (he : starEach (e :: es) X.env = (false, eval e X.env) :: starEach es X.env := by rfl) (hpl : (backTo pos (starEach es X.env)).any (·.1) = false := by rfl) :
    PE X (.Call (.Name x p1) (e :: es) [] pos) (fun σ H Q => t σ H fun vs H1 => sp0 vs H1 Q E) := by
  refine ⟨fun pins s σ H Q I h => ?_⟩
  refine wpAny_Call_Name_kw (ld_glob I hg hm ?_ hd)
  refine PySem.W.callWith_K (h₀ := X.base) I.ok.mod.kin hk (thn (ha.run pos pins s σ H _ I h) fun us s1 ⟨vs, H1, I1, r, q⟩ => ⟨I1.kIn, ?_⟩) he hpl
  exact wpAny_call (run_fnA F hr hx I1 r (hs _ _ _ _ _ _ I1 q))
/-- o.m(e, ..) -/
theorem pe_methA {f : Addr} {pl : Sem Bool} (he : PE X o ta) (c : Cls X.K C) (hm : Meth X.K C m f) (F : FnA X.prog X.w X.K X.mg X.base CX k f sp) (hs : ∀ pins s σ H vs Q, Inv X pins σ H s → sp0 vs H Q E → sp X.A s vs H Q E) (hr : Room k X.A) (hx : Passes CX X E) (ha : PA X (e :: es) t)
    (hst : starEach (e :: es) X.env = (false, eval e X.env) :: starEach es X.env := by rfl) (hpl : (backTo pos (starEach es X.env)).any (·.1) = false := by rfl)
    (ht : eval (.Call (.Attribute o m apos) (e :: es) [] pos) X.env = (do
      let ov ← eval o X.env
      standAt apos.atName
      let (f, first) ← holding [ov] (getMethod ov m pl)
      callWith pos f first (backTo pos (starEach (e :: es) X.env)) (backToKw pos (keywordEach [] X.env))) := by rfl) :
    PE X (.Call (.Attribute o m apos) (e :: es) [] pos) (tMethR C m sp0 E ta t) := by
  refine ⟨fun pins s σ H Q I h => ?_⟩
  refine PySem.W.methodCall_KW (pl := pl) (thn (he.run pins s σ H _ I h) fun u s1 ⟨x, H1, I1, rx, a, dx, fs, ex, ea, l, q⟩ => ?_) ht
  subst ex
  obtain rfl : u = Value.ref a := rx
  refine getmeth_ok I1 ea c hm l ?_
  refine PySem.W.callWith_K (first := [.ref a]) (h₀ := X.base) I.ok.mod.kin hm.kp (thn (ha.run pos pins s1 σ H1 _ I1 q) fun us s2 ⟨vs, H2, I2, r, q2⟩ => ⟨I2.kIn, ?_⟩) hst hpl
  exact wpAny_call (run_fnA (us := .ref a :: us) (vs := .ref a :: vs) F hr hx I2 (.cons rfl r) (hs _ _ _ _ _ _ I2 q2))
end
/-! ### != of instances by an own __eq__ (the __ne__ is object's) -/
section
variable {M : Model} {prog : Program} {w : World} {A : Around} {E : Value → Shared → Prop} {s : Shared} {K : PySem.W.Frag} {x C f : Addr} {b tb : Value} {ox : Obj} {od : Option Obj}
theorem entry_ne {Q : Fin → Shared → Prop} (hu : A.units < cLine) (X : K.In s.heap) (I : PySem.W.InstAt s.heap x ox C od) (hs : PySem.W.findIn K (.ref C) "__eq__" = some (some (.ref f))) (hf : PySem.W.isFn K (.ref f) = true)
    (h : wpAny M A (call (.ref f) [.ref x, b]) (fun v s' => ∃ k, v = Value.bool k ∧ Q (.done (.ret (.bool (!k)))) s') E s) : wpAny M A (Builtin.«object.__ne__» ⟨[.ref x, b], []⟩) Q E s := by
  unfold Builtin.«object.__ne__»
  refine wpAny_bind (wpAny_of_eq (a := (Value.ref x, [b])) rfl ?_)
  refine wpAny_bind (wpAny_cRoomFor hu ?_)
  refine wpAny_bind (m := callSpecialIfBound? (.ref x) (Str.ofString "__eq__") _) (PySem.W.ifBound_K X I hs hf (wpAny_mono h (fun r s' hr => ?_) fun _ _ y => y))
  obtain ⟨k, rfl, hq⟩ := hr
  exact wpAny_bind (wpAny_truthy_bool (wpAny_pure hq))
end
end Lo
end
section
/-! != of instances by an own __eq__ (the __ne__ is object's) -/
namespace Lo
open PySem PySem.Spec PyProof.Rows L2 StX
section
variable {M : Model} {prog : Program} {w : World} {A : Around} {E : Value → Shared → Prop} {s : Shared} {K : PySem.W.Frag} {x C f : Addr} {b tb : Value} {ox : Obj} {od : Option Obj}
theorem call_ne {Q : Value → Shared → Prop} (hu : A.in1.units < cLine) (X : K.In s.heap) (I : PySem.W.InstAt s.heap x ox C od) (hm : PySem.W.mroIn K C (.type "object") = some true) (hs : PySem.W.findIn K (.ref C) "__eq__" = some (some (.ref f))) (hf : PySem.W.isFn K (.ref f) = true)
    (h : wpAny (model prog w) A.in1 (call (.ref f) [.ref x, b]) (fun v s' => ∃ k, v = Value.bool k ∧ Q (.bool (!k)) s') E s) : wpAny (model prog w) A (call (.builtin "object.__ne__") [.ref x, b]) Q E s :=
  wpAny_call (codeAny_call_builtin F.cmp_object.ne.plain F.cmpEntry_ne (PySem.W.check_slot F.cmpKind_ne F.cmpSplit_ne (I.type.andThen (PySem.W.looks_mroIn X hm)) (F.cmpArgs_ne _ _) (entry_ne hu X I hs hf h)))
theorem ifBound_ne {args : List Value} {Q : Option Value → Shared → Prop} (X : K.In s.heap) (I : PySem.W.InstAt s.heap x ox C od) (hs : PySem.W.findIn K (.ref C) "__ne__" = some (some (.builtin "object.__ne__")))
    (h : wpAny M A (call (.builtin "object.__ne__") (.ref x :: args)) (fun v => Q (some v)) E s) : wpAny M A (callSpecialIfBound? (.ref x) "__ne__" args) Q E s := by
  simp only [callSpecialIfBound?, bindSpecialIfBound?]
  refine wpAny_holding (wpAny_bind (wpAny_bind (wpAny_bind (I.type.here ((PySem.W.looks_findIn X hs).here ?_)))))
  refine wpAny_bind (wpAny_askSetting (wpAny_ite ?_))
  have fin : wpAny M A (call (.builtin "object.__ne__") ([.ref x] ++ args) >>= fun v => pure (some v)) Q E s := wpAny_bind (wpAny_mono h (fun v s' h' => wpAny_pure h') fun _ _ h' => h')
  split
  · exact wpAny_bind (wpAny_of_eq (F.cmp_object.ne.bind _) (wpAny_pure (by exact fin)))
  · exact wpAny_tryCatch (wpAny_bind (wpAny_of_eq (F.cmp_object.ne.bind _) (wpAny_pure (by exact fin))))
theorem rc_ne {Q : Value → Shared → Prop} (hu : A.units < cLine) (hu1 : A.in1.units < cLine) (X : K.In s.heap) (I : PySem.W.InstAt s.heap x ox C od) (hb : PySem.W.Looks (model prog w) s.heap (typeOf b) (.ref C)) (hm : PySem.W.mroIn K C (.type "object") = some true)
    (hn : PySem.W.findIn K (.ref C) "__ne__" = some (some (.builtin "object.__ne__"))) (hs : PySem.W.findIn K (.ref C) "__eq__" = some (some (.ref f))) (hf : PySem.W.isFn K (.ref f) = true)
    (h : wpAny (model prog w) A.in1 (call (.ref f) [.ref x, b]) (fun v s' => ∃ k, v = Value.bool k ∧ Q (.bool (!k)) s') E s) : wpAny (model prog w) A (richCompare .NotEq (.ref x) b) Q E s := by
  have one : wpAny (model prog w) A (tryCompare (.ref x) "__ne__" b) (fun r s' => ∃ v, r = some v ∧ Q v s') E s := by
    unfold tryCompare
    refine wpAny_bind (ifBound_ne X I hn (call_ne hu1 X I hm hs hf (wpAny_mono h (fun v s' hv => ?_) fun _ _ e => e)))
    obtain ⟨k, rfl, hq⟩ := hv
    exact ⟨k, rfl, wpAny_pure ⟨_, rfl, hq⟩⟩
  unfold richCompare
  simp only [oneThing_ref]
  refine wpAny_holding (wpAny_bind (wpAny_cRoomFor hu ?_))
  refine wpAny_bind (I.type.here (wpAny_bind (hb.here ?_)))
  split
  · rename_i q
    simp at q
  · refine wpAny_bind (wpAny_pure ?_)
    simp only [Bool.false_eq_true, if_false]
    refine wpAny_bind (m := tryCompare (.ref x) _ b) (wpAny_mono one (fun r s' z => ?_) fun _ _ e => e)
    obtain ⟨v, rfl, hq⟩ := z
    exact wpAny_pure hq
end
section
variable {X : Cx} {CX : CXT} {g C : Addr} {n : Nat} {sp : Sp} {E : XK}
def rNeO (C : Addr) (sp : Sp) (E : XK) : R2 := fun x y H Q => ∃ a dx fs b dy gs, x = .ref a ∧ y = .ref b ∧ H a = some (.ins C dx fs) ∧ H b = some (.ins C dy gs) ∧ sp [x, y] H (fun v H' => ∃ k, v = .bl k ∧ Q (.bl (!k)) H') E
theorem op_neOwn (hm : PySem.W.mroIn X.K C (.type "object") = some true) (hn : PySem.W.findIn X.K (.ref C) "__ne__" = some (some (.builtin "object.__ne__"))) (hs : PySem.W.findIn X.K (.ref C) "__eq__" = some (some (.ref g))) (hf : PySem.W.isFn X.K (.ref g) = true)
    (F : FnR X.prog X.w X.K X.mg X.base CX n g sp) (hr : Room (n + 1) X.A) (he : ∀ (H : Hp) (s : Shared) (e : Value) (s' : Shared), CX X.stack H s E e s' → False) : OpR X (compareOp .NotEq) (rNeO C sp E) := by
  intro pins s σ H x y v u Q I rx ry h
  obtain ⟨a, dx, fs, b, dy, gs, rfl, rfl, ha, hb, q⟩ := h
  cases (show v = Value.ref a from rx)
  cases (show u = Value.ref b from ry)
  obtain ⟨od, J⟩ := ins_inst I ha
  obtain ⟨od', J'⟩ := ins_inst I hb
  show wpAny _ _ (richCompare .NotEq (.ref a) (.ref b)) _ _ _
  refine rc_ne hr.units0 hr.in1.units0 I.kIn J J'.type hm hn hs hf ?_
  refine wpAny_call (codeAny_mono (F X.A.in1 X.stack s H [.ref a, .ref b] [.ref a, .ref b] _ E hr.in1 I.env0.in1 (.cons rfl (.cons rfl .nil)) q) fun r s' hq => ?_)
  cases r with
  | error er => exact (he _ _ _ _ hq).elim
  | ok fl =>
    cases fl with
    | ret u =>
      obtain ⟨v, H', I3, rv, k, ek, q3⟩ := I.after hq
      subst ek
      obtain rfl : u = Value.bool k := rv
      exact ⟨k, rfl, .bl (!k), H', I3, rfl, q3⟩
    | next => exact False.elim hq
    | brk => exact False.elim hq
    | cont => exact False.elim hq
end
end Lo
end
section
/-! An own exception class whose __init__ says super().__init__(a text) and stores its one argument. -/
namespace Lo
open PySem PySem.Spec PySem.Calls PyProof.Rows L2 StX NdefX
/-- what the __init__ asks of the written part: f the def, cc the cell of the class, D the class -/
structure SupC (P : Program) (K : PySem.W.Frag) (mg : Str → Option Value) (D cc cda : Addr) : Prop where
  T : OexC K D
  cell : ∃ cl cld csl, K.lookup cc = some ⟨cl, cld, .cell (some (.ref D)), csl⟩
  code : ∃ ccl cdd vs ccs file tf, K.lookup cda = some ⟨ccl, cdd, .fields vs, ccs⟩ ∧ vs[2]? = some (.str file tf) ∧ ((P.main.file : Str) == file) = true
  sub : PySem.W.mroIn K D (.ref D) = some true
  ve : PySem.W.subIn K (.ref D) (.type "ValueError") = some true
  sup : PySem.W.ks_superIn K D D "__init__" = some (some (.builtin "ValueError.__init__"))
  opq : PySem.W.nsIn K cStatics "thirdparty.any" = some none
  sg : mg "super" = none
  top : (P.main.scope.names.lookup ("super" : Str)).isSome = false
def spExc (K : PySem.W.Frag) (D : Addr) (fld : Str) : Sp := fun vs H Q _ => ∃ (a : Addr) (v : V), vs = [.ref a, v] ∧ H a = some (exo a D none) ∧ ∀ dx, H dx = none → dx ≠ a → Q .non (upd (upd H dx (exd dx [(fld, v)])) a (exo a D (some dx)))
theorem ok_excInit {CX : CXT} {P : Program} {w : World} {K : PySem.W.Frag} {mg : Str → Option Value} {base : Heap} {D f cc cda : Addr} {qual fld vn z : Str} {params : Arguments} {scope : Scope} {dV kV doc pm ct oc : Value} {an od : Option Addr} {osl : Array (Option Value)} {j : Nat} {p0 p1 p2 p3 p4 p5 p6 p7 p8 p9 : Pos} {ar : Arg}
    (lk : K.lookup f = some ⟨oc, od, .func (PySem.W.ksFn "__init__" qual params [.Expr (.Call (.Attribute (.Call (.Name "super" p0) [] [] p1) "__init__" p2) [.Constant (.str z) j p3] [] p4) p5, .Assign [.Attribute (.Name "self" p6) fld p7] (.Name vn p8) p9] scope dV kV doc pm an (.ref cda) ct cc), osl⟩)
    (hcd : PySem.W.codeIn K (.ref cda) qual = true) (U : SupC P K mg D cc cda) (S : NScope ["self", vn, "__class__"] ["self", vn] ["__class__"] scope) (hsn : scope.names.lookup ("super" : Str) = some .globalImplicit)
    (hp : (params.posonlyargs ++ params.args).head? = some ar) (har : ar.arg = ("self" : Str)) (hno : PySem.W.findIn K (.ref D) fld = some none) (hvn : (vn == ("__debug__" : Str)) = false) (hvc : (vn == ("__classdict__" : Str)) = false) (hns : vn ≠ "self") {pl : Sem Bool}
    (ht : ∀ L, eval (.Call (.Attribute (.Call (.Name "super" p0) [] [] p1) "__init__" p2) [.Constant (.str z) j p3] [] p4) (PySem.W.ksEnv qual scope L f (.ref cda) cc) = (do
      let ov ← attributeBase (.Call (.Name "super" p0) [] [] p1) "__init__" (PySem.W.ksEnv qual scope L f (.ref cda) cc) (eval (.Call (.Name "super" p0) [] [] p1) (PySem.W.ksEnv qual scope L f (.ref cda) cc))
      standAt p2.atName
      let (f', first) ← holding [ov] (getMethod ov "__init__" pl)
      callWith p4 f' first (backTo p4 (starEach [.Constant (.str z) j p3] (PySem.W.ksEnv qual scope L f (.ref cda) cc))) [])) :
    FnOk P w K mg base CX 1 f (PySem.W.ksFn "__init__" qual params [.Expr (.Call (.Attribute (.Call (.Name "super" p0) [] [] p1) "__init__" p2) [.Constant (.str z) j p3] [] p4) p5, .Assign [.Attribute (.Name "self" p6) fld p7] (.Name vn p8) p9] scope dV kV doc pm an (.ref cda) ct cc) ["self", vn] (spExc K D fld) := by
  refine ⟨fun vs H Q E h => ?_, fun A outer s H args us vs Q E hr e0 hb r hsp => ?_⟩
  · obtain ⟨a, v, rfl, _⟩ := h
    rfl
  obtain ⟨a, v, rfl, ea, k⟩ := hsp
  obtain ⟨cl, cld, csl, hcell⟩ := U.cell
  obtain ⟨ccl, cdd, vs0, ccs, file, tf, hcode, hvs, hfile⟩ := U.code
  have KX : K.In s.heap := e0.mod.kin.keeps fun b o e => (e0.bs b o e).1
  have lim : s.heap.NoLimit := e0.mod.nolimit.keeps fun b o e => (e0.bs b o e).1
  obtain ⟨u0, uv, rfl, ru, rv⟩ := vals2 r
  obtain rfl : u0 = Value.ref a := ru
  have selfL : scope.names.lookup ("self" : Str) = some .local := S.par _ (by simp)
  have vnL : scope.names.lookup vn = some .local := S.par _ (by simp)
  refine ks_codeAny_call_defAt (binds := (["self", vn] : List Str).zip [.ref a, uv]) hr.depth (KX _ _ lk) rfl lim (PySem.W.codeRec_of KX hcd) rfl hb S.nocell (fun ⟨n, q⟩ hy => S.par n (List.of_mem_zip hy).1) (fun h₁ hn₁ kp => ?_) S.co S.gen S.kind
  generalize hF : (⟨"__init__", qual, params, [], scope, [("__class__", cc)], cda⟩ : NF) = F
  have C : CellsAt F.cl ["__class__"] [none] s.heap H := by
    subst hF
    have bk := e0.mod.kin _ _ hcell
    refine ⟨rfl, fun y c e => ?_, fun x y c e1 e2 => ?_, fun i y e => ?_⟩
    · have e' : (List.lookup y [(("__class__" : Str), cc)]) = some c := e
      simp only [List.lookup] at e'
      split at e'
      · cases e'
        exact ⟨(e0.bs _ _ bk).2, _, _, (e0.bs _ _ bk).1, rfl⟩
      · cases e'
    · have e1' : (List.lookup x [(("__class__" : Str), cc)]) = some c := e1
      have e2' : (List.lookup y [(("__class__" : Str), cc)]) = some c := e2
      simp only [List.lookup] at e1' e2'
      split at e1'
      · split at e2'
        · rename_i q1 _ q2
          rw [beq_iff_eq.mp q1, beq_iff_eq.mp q2]
        · cases e2'
      · cases e1'
    · match i, e with
      | 0, e =>
        cases e
        exact ⟨cc, by simp [List.lookup], fun v ev => by cases ev⟩
  have I : Inv (ncx CX P w K mg base ["self", vn, "__class__"] F f A outer s H E) [] (startF ["self", vn, "__class__"] [.ref a, v] [none]) H { s with heap := h₁, toks := s.toks + ((["self", vn] : List Str).zip [Value.ref a, uv]).length } := by
    subst hF
    exact inv_startN S hr.hd e0 rfl r C hn₁ kp
  subst hF
  have KX1 : K.In h₁ := KX.keeps kp
  obtain ⟨mb, hb1, hb2⟩ := I.mod.blt
  have hB : bootBuiltins ("super" : Str) = some (.type "super") := PyProof.Rows.Boot.super
  obtain ⟨oD, hD1, cdD, hD2⟩ : ∃ oD, h₁.get? D = some oD ∧ ∃ cdD, oD.data = .cls cdD := by
    obtain ⟨nm, q, N, bs, bm, sn, sub, ab, col, dd, k0, k1, k2, k3, k5, hC, hbm⟩ := U.T.cls
    exact ⟨_, KX1 _ _ hC, _, rfl⟩
  obtain ⟨t1, ho⟩ := exo_at I.hok ea
  refine ks_wpAt_execs_cons (ks_wpAt_Expr_any (hi := I.quiet) (ks_wpAt_MethodCall ?_ (ht _)))
  refine ks_wpAt_super_base hsn (S.frk _ (by simp)) (by decide) rfl (KX1 _ _ lk) rfl hp rfl (KX1 _ _ hcode) rfl hvs hfile U.top ?_
  refine PySem.W.ks_loadName_global S.kind hsn (Calls.loadGlobal_builtin (I.mod.glob.keeps I.bk) U.sg (hb1.keeps I.bk) ((hb2 _ (by decide)).trans hB) ⟨rfl, ?_⟩)
  refine wpAny_loadName_free S.kind (S.frk _ (by simp)) (by rfl) ⟨_, KX1 _ _ hcell, rfl⟩ ?_
  refine wpAny_loadName_local S.kind (by rw [har]; exact selfL) hn₁ (v := .ref a) (by
    rw [har]
    have e : (("self" : Str) == vn) = false := by
      rw [beq_eq_false_iff_ne]
      exact fun z => hns z.symm
    simp [List.lookup, e]) ?_
  refine ks_wpAny_isType_cls hD1 hD2 ⟨rfl, ?_⟩
  refine ks_wpAny_call_super hD1 hD2 ho rfl (fun c e => by cases e) (PySem.W.looks_mroIn KX1 U.sub) (fun h2 e2 k2 => ?_)
  have I2 : Inv (ncx CX P w K mg base ["self", vn, "__class__"] ⟨"__init__", qual, params, [], scope, [("__class__", cc)], cda⟩ f A outer s H E) [] (startF ["self", vn, "__class__"] [.ref a, v] [none]) H { s with heap := h2, toks := s.toks + ((["self", vn] : List Str).zip [Value.ref a, uv]).length } := I.kept (t' := s.toks + ((["self", vn] : List Str).zip [Value.ref a, uv]).length) k2
  have KX2 : K.In h2 := KX1.keeps k2
  have J2 : PySem.W.InstAt h2 a ({ cls := .ref D, dict := none, data := .fields #[.ref t1, .none, .none, .none, .bool false, .none] } : Obj) D none := ⟨k2 _ _ ho, rfl, rfl, trivial⟩
  obtain ⟨cd, hcd2⟩ : ∃ cd, PySem.W.clsIn K D = some cd := by
    cases hc : PySem.W.clsIn K D with
    | none =>
      have z := U.sup
      unfold PySem.W.ks_superIn at z
      rw [hc] at z
      cases z
    | some cd => exact ⟨cd, rfl⟩
  have hsup := U.sup
  unfold PySem.W.ks_superIn at hsup
  rw [hcd2] at hsup
  refine PySem.W.kxs_getMethod PySem.W.kxs_ValueError e2 (PySem.W.looks_opaque KX2 U.opq) (l₀ := cd.mro) (fun A Q E s k q => wpAny_bind ((PySem.W.looks_clsIn KX2 hcd2) A _ E s k (wpAny_pure q))) rfl KX2 hsup (J2.type.andThen (PySem.W.looks_subIn KX2 U.ve)) (PySem.W.ks_ne KX2 J2 hcd2) (by decide) ?_
  have hu3 : (h2.push (PySem.W.kxs_mw "ValueError.__init__" a)).get? h2.objs.size = some (PySem.W.kxs_mw "ValueError.__init__" a) := Heap.get?_push_size _ rfl
  have I3 : Inv (ncx CX P w K mg base ["self", vn, "__class__"] ⟨"__init__", qual, params, [], scope, [("__class__", cc)], cda⟩ f A outer s H E) [(h2.objs.size, PySem.W.kxs_mw "ValueError.__init__" a)] (startF ["self", vn, "__class__"] [.ref a, v] [none]) H { s with heap := h2.push (PySem.W.kxs_mw "ValueError.__init__" a), toks := s.toks + ((["self", vn] : List Str).zip [Value.ref a, uv]).length + 1 } :=
    ClX.pin_new (s := { s with heap := h2, toks := s.toks + ((["self", vn] : List Str).zip [Value.ref a, uv]).length }) (h' := h2.push (PySem.W.kxs_mw "ValueError.__init__" a)) (t' := s.toks + ((["self", vn] : List Str).zip [Value.ref a, uv]).length + 1) I2 (fun b o e => Heap.get?_push_of_some _ e) (Nat.le_refl _) hu3 (fun v z => nomatch z)
  have lone : wpAny (model P w) (A.deeper (PySem.W.ksEnv qual scope s.heap.objs.size f (.ref cda) cc)) (spliced (backTo p4 (starEach [.Constant (.str z) j p3] (PySem.W.ksEnv qual scope s.heap.objs.size f (.ref cda) cc)))) (fun us s4 => ∃ tk, us = [Value.str z tk] ∧ Inv (ncx CX P w K mg base ["self", vn, "__class__"] ⟨"__init__", qual, params, [], scope, [("__class__", cc)], cda⟩ f A outer s H E) [(h2.objs.size, PySem.W.kxs_mw "ValueError.__init__" a)] (startF ["self", vn, "__class__"] [.ref a, v] [none]) H s4) (fun e s' => wpAny (model P w) (A.deeper (PySem.W.ksEnv qual scope s.heap.objs.size f (.ref cda) cc)) (leaving (PySem.W.ksEnv qual scope s.heap.objs.size f (.ref cda) cc) e) (fun _ s'' => CR CX outer P w H s Q E (.error e) s'') (fun e' s'' => CR CX outer P w H s Q E (.error e') s'') s') { s with heap := h2.push (PySem.W.kxs_mw "ValueError.__init__" a), toks := s.toks + ((["self", vn] : List Str).zip [Value.ref a, uv]).length + 1 } := by
    refine thn ((pa_cons pe_str pa_nil).run p4 _ _ _ H (fun vs H1 => vs = [.str z] ∧ H1 = H) I3 ⟨rfl, rfl⟩) fun us s4 q4 => ?_
    obtain ⟨vs, H4, I4, r4, e1, e2⟩ := q4
    subst e1
    subst e2
    obtain ⟨u, eu, ru⟩ := vals1 r4
    obtain ⟨tk, et⟩ := (show ∃ t, u = Value.str z t from ru)
    subst et
    exact ⟨tk, eu, I4⟩
  refine PySem.W.kxs_callWith (i := "ValueError.__init__") (x := a) rfl (Calls.evalArgs_plain (thn lone fun us s4 q4 => ?_))
  obtain ⟨tk, eus, I4⟩ := q4
  subst eus
  refine ⟨ClX.pin_at I4, ?_⟩
  have hu4 := ClX.pin_at I4
  have I5 := ClX.unpin I4
  obtain ⟨nm, q, N, bs, bm, sn, sub, ab, col, dd, k0, k1, k2', k3, k5, hC, hbm⟩ := U.T.cls
  obtain ⟨t4, ho4⟩ := exo_at I5.hok ea
  obtain ⟨h4, g4, d4, tk4, os4⟩ := s4
  show wpAny _ _ (call (.ref h2.objs.size) [Value.str z tk]) _ _ _
  refine wpAny_call (codeAny_of_tree ?_)
  show wpAny _ _ (callAny (.ref h2.objs.size) ⟨[Value.str z tk], []⟩) _ _ _
  simp only [callAny]
  refine wpAny_bind (wpAny_load hu4 ?_)
  simp only [PySem.W.kxs_mw, show (Value.type "method-wrapper" == Value.type "method" || Value.type "method-wrapper" == Value.type "builtin_function_or_method" || Value.type "method-wrapper" == Value.type "method-wrapper") = true by decide, if_true]
  refine PySem.W.KFB.if_so (by decide) ?_
  refine wpAny_bind (PySem.W.check_bound_init F.excBase_ValueError.toExcCallFacts (I5.kIn _ _ hC) ho4 rfl ?_)
  refine wpAny_bind (wpAny_pure (wpAny_pure ?_))
  refine ⟨plainId_quiet F.excBase_ValueError.init.plain _, codeAny_builtin F.excBase_ValueError.initEntry ?_⟩
  refine PySem.W.exc_init_tree (cls := .ref D) (t0 := t4) (dv := none) (c2 := .none) (c3 := .none) (b4 := .bool false) ho4 (show 1 ≤ sizeLine by decide) (fun h' k6 hx6 _ => ?_)
  have I6 := I5.write (t' := tk4) (x := a) (e := a) (o := exo a D none) (by rw [ea]; exact True.intro) (.inl rfl) k6 ⟨_, hx6⟩ (exo_ok hx6)
  have eu : upd H a (exo a D none) = H := by
    funext b
    by_cases hb : b = a
    · rw [hb, upd_same, ea]
    · rw [upd_ne hb]
  rw [eu] at I6
  refine wpAt_of_wpAny ?_
  have body2 := pss_one (ps_ost (X := ncx CX P w K mg base ["self", vn, "__class__"] ⟨"__init__", qual, params, [], scope, [("__class__", cc)], cda⟩ f A outer s H E) (pos := p9) (p' := p7) (f := fld) (pv 0 (x := "self") (pos := p6) rfl (.inl selfL)) (pv 1 (x := vn) (pos := p8) rfl (.inl vnL) hvn hvc) (by rfl))
  refine wpAny_mono (body2.run [] _ _ H { nx := fun _ H' => Q .non H', rt := Q } I6 ⟨v, rfl, .ref a, rfl, a, D, rfl, U.T, hno, .inl ⟨ea, fun dx n ne => k dx n ne⟩⟩) (fun fl s' hs => ?_) fun e s' hs => hs
  have fin : ∀ {σ' : L2.St} {H' : Hp} {v' : V} {u : Value}, Inv (ncx CX P w K mg base ["self", vn, "__class__"] ⟨"__init__", qual, params, [], scope, [("__class__", cc)], cda⟩ f A outer s H E) [] σ' H' s' → L2.RelV v' u → Q v' H' → CE outer P w H s Q u s' :=
    fun {σ' H' v u} J rv q => ⟨v, H', J.os, J.bare, J.base, J.hok, rv, q⟩
  cases fl with
  | ret u =>
    obtain ⟨v, σ', H', J, rv, q⟩ := hs
    exact fin J rv q
  | next =>
    obtain ⟨σ', H', J, q⟩ := hs
    exact fin (v' := V.non) (u := Value.none) J rfl q
  | brk =>
    obtain ⟨_, _, _, q⟩ := hs
    exact False.elim q
  | cont =>
    obtain ⟨_, _, _, q⟩ := hs
    exact False.elim q
end Lo
end
section
/-! A caught exception that is known behind its suite. -/
namespace Lo
open PySem PySem.Spec PySem.Calls PyProof.Rows L2 StX
/-- at a: an exception object of the class cls, its dict d -/
def exq (a : Addr) (cls : Value) (d : Option Addr) : HO := .ext fun h => ∃ (oe : Obj) (vs : Array Value), h.get? a = some oe ∧ Zc cls d oe ∧ oe.data = .fields vs
theorem exq_ok {P : Program} {w : World} {H : Hp} {h : Heap} {a : Addr} {cls : Value} {d : Option Addr} {oe : Obj} {vs : Array Value} (e : h.get? a = some oe) (z : Zc cls d oe) (hd : oe.data = .fields vs) : ObjOk P w H h a (exq a cls d) :=
  ⟨⟨oe, vs, e, z, hd⟩, ⟨_, e⟩, fun h1 h2 ⟨o, us, q, z, hd⟩ k => ⟨o, us, k _ q, z, hd⟩⟩
theorem exq_at {P : Program} {w : World} {H : Hp} {h : Heap} {a : Addr} {cls : Value} {d : Option Addr} (hok : HOk P w H h) (e : H a = some (exq a cls d)) : ∃ (oe : Obj) (vs : Array Value), h.get? a = some oe ∧ Zc cls d oe ∧ oe.data = .fields vs := by
  obtain ⟨q, _, _⟩ := hok a _ e
  exact q
section
variable {X : Cx} {pins : List (Addr × Obj)} {σ : L2.St} {H : Hp} {s : Shared} {a : Addr} {o : HO}
/-- an object that the frame's beginning had not is known from now on -/
theorem inv_track (I : Inv X pins σ H s) (h0 : X.s_0.heap.get? a = none) (na : H a = none) (hL : a ≠ X.env.locals) (hC : ∀ y c, X.env.cells.lookup y = some c → c ≠ a) (hp : ∀ p ∈ X.pn ++ pins, p.1 ≠ a) (ho : ObjOk X.prog X.w (upd H a o) s.heap a o) : Inv X pins σ (upd H a o) s := by
  have un := I.base
  refine ⟨I.ok, I.os, I.bare, ⟨un.keep, un.slot, fun b ob e n hb => ?_, un.there, fun b xs e => ?_, fun b ob u e => ?_, fun b ps e => ?_⟩, I.loc, I.cell, by rw [upd_ne (Ne.symm hL)]; exact I.free, fun y c e => by rw [upd_ne (hC y c e)]; exact I.freeC y c e, fun p hp' => ?_, fun b u e => ?_, I.len⟩
  · have : b ≠ a := fun z => by rw [z, h0] at e; cases e
    rw [upd_ne this]
    exact un.free b ob e n hb
  · have e' := un.tups b xs e
    rw [upd_ne (ne_of_none e' na)]
    exact e'
  · have e' := un.frzs b ob u e
    rw [upd_ne (ne_of_none e' na)]
    exact e'
  · obtain ⟨more, e'⟩ := un.tbls b ps e
    exact ⟨more, by rw [upd_ne (ne_of_none e' na)]; exact e'⟩
  · obtain ⟨q1, q2, q3, q4, q5⟩ := I.pin p hp'
    exact ⟨q1, by rw [upd_ne (hp p hp')]; exact q2, q3, q4, q5⟩
  · by_cases hb : b = a
    · subst hb
      rw [upd_same] at e
      cases e
      exact ho
    · rw [upd_ne hb] at e
      refine (I.hok b u e).stay (fun d v _ q => q) (fun d q => ?_) fun d xs q => ?_
      · rw [upd_ne (ne_of_none q na)]; exact q
      · rw [upd_ne (ne_of_none q na)]; exact q
end
/-- what the clause 'except x as n' wishes of an exception of the body; the caught one is known behind the suite -/
def wAs2 (K : PySem.W.Frag) (c : Value) (i : Nat) (ts : Addr → Value → Option Addr → TS) (Wout : WX) (D : Ends) : WX := fun cls d σ H =>
  ∃ b, PySem.W.exmOne K cls c = some b ∧ (b = true → ∀ a, H a = none → ts a cls d { nx := fun σ' H' => D.nx (σ'.set i none) (upd H' a (exq a cls d)), rt := fun v H' => D.rt v H', bk := fun σ' H' => D.bk (σ'.set i none) H', ct := fun σ' H' => D.ct (σ'.set i none) H' } (σ.set i (some (.ref a))) H) ∧
    (b = false → Wout cls d σ H)
section
variable {X : Cx} {x n : Str} {c : Value} {i : Nat} {body suite : List Stmt} {b₀ : Stmt} {np pos pos' : Pos} {tb : WX → TS} {ts : Addr → Value → Option Addr → TS} {Wout : WX}
theorem ps_try_as2 (hex : X.ex = []) (hs : X.stack = X.env :: X.outer) (hf : X.env.frame = some X.env.locals) (hN : X.N.Nodup) (hi : X.N[i]? = some n) (hln : X.env.kindOf n = some .local) (hc : Names X x c) (tk : Takes X Wout)
    (hb : ∀ (W : WX) (pn : List (Addr × Obj)) (xe : Value → Shared → Prop), Takes (X.tr pn xe) W → PassesOwn (model X.prog X.w) X.A X.env xe → PSs (X.tr pn xe) body (tb W))
    (hsu : ∀ (a : Addr) (oe : Obj) (cls : Value) (d : Option Addr) (pn : List (Addr × Obj)), Zc cls d oe → (∃ vs, oe.data = .fields vs) → PSs (X.suite a ((a, oe) :: pn)) (b₀ :: suite) (ts a cls d)) :
    PS X (.Try body [.ExceptHandler (some (.Name x np)) (some n) (b₀ :: suite) pos'] [] [] pos) (fun D σ H => tb (wAs2 X.K c i ts Wout D) D σ H) := by
  refine ⟨fun pins s σ H D I h => ?_⟩
  have ok := I.ok
  have hfr : X.A.frames = some (X.env :: X.outer) := by rw [ok.frames, hs]
  have hloc : Loc X.env.scope n := .inl hln
  refine wpAny_Try_except ?_
  refine wpAny_mono ((hb (wAs2 X.K c i ts Wout D) (X.pn ++ pins) (fun e s₁ => wpAny (model X.prog X.w) X.A (noteFrame e X.env) (fun _ s₂ => wpAny (model X.prog X.w) X.A (setFlight e none) (fun _ s₃ =>
    wpAny (model X.prog X.w) X.A (handleBy e X.env [.ExceptHandler (some (.Name x np)) (some n) (b₀ :: suite) pos']) (SP X pins D) X.xe s₃) X.xe s₂) X.xe s₁) (fun u s' xx => ?_) PassesOwn.looking).run [] s σ H D (I.toTry _) h) (fun f s1 hsp => ?_) (fun e s1 he => he)
  · -- the catch
    obtain ⟨a, B, sI, pins', σ', H', cls, d, rfl, J', nb, up, sky, na, os, ag, b, hb1, hyes, hno⟩ := xx
    have J : Inv X pins σ' H' sI := J'.ofTry ok
    have sky' : Sky B (X.env :: X.outer) a (Zc cls d) X.env.locals s'.heap := by rw [← hs]; exact sky
    show wpAny (model X.prog X.w) X.A (noteFrame (.ref a) X.env) _ _ _
    refine Sky.land Zc.steady hfr hf sky' fun h3 fl3 up3 => ?_
    have J3 : Inv X pins σ' H' { s' with heap := h3 } := J.landed nb fl3.1 (up.trans up3) os ag
    obtain ⟨oe3, vs3, he3, hz3, hd3⟩ := fl3.there
    have notFr : ∀ {h : Heap} {o : Obj} {vs : Array Value}, h.FunFrames B (X.env :: X.outer) → h.get? a = some o → o.data = .fields vs → a ∉ frs (X.env :: X.outer) := fun {h o vs} ff e dd hm => by
      obtain ⟨_, o', e', hnf⟩ := ff.mem hm
      rw [e] at e'; cases e'
      exact hnf _ dd
    have nfr := notFr fl3.2.2.1 he3 hd3
    have nL : a ≠ X.env.locals := fun z => nfr (List.mem_filterMap.mpr ⟨X.env, List.mem_cons_self, by rw [hf, z]⟩)
    have nF : a ∉ X.fs := fun hm => by
      obtain ⟨e, he, q⟩ := List.mem_filterMap.mp hm
      exact nfr (List.mem_filterMap.mpr ⟨e, List.mem_cons_of_mem _ he, q⟩)
    have S3 := J3.suite he3 hd3 na nL nF
    refine wpAny_handleBy_cons (codeAny_handlers_test ?_) (by intro q; cases q)
    have LT : PySem.W.Looks (model X.prog X.w) h3 (typeOf (.ref a)) cls := fun A Q E s k q => wpAny_typeOf_ref (k _ _ he3) (by rw [hz3.1]; exact q)
    have LM := PySem.W.exm_one (M := model X.prog X.w) (J3.kIn) LT hb1
    have test : ∀ {Q : Value → Shared → Prop} {E : Value → Shared → Prop}, Q c { s' with heap := h3 } → wpAny (model X.prog X.w) (X.A.mark (some (.ref a))) (eval (.Name x np) X.env) Q E { s' with heap := h3 } := fun {Q E} q => by
      obtain ⟨hg, hdbg, hm | ⟨hm, hv, hnn⟩⟩ := hc
      · exact ld_glob (X := X.suite a ((a, oe3) :: (X.pn ++ pins))) S3 hg hm q hdbg
      · exact ld_blt (X := X.suite a ((a, oe3) :: (X.pn ++ pins))) S3 hg hm hv q hnn hdbg
    refine test (LM.here ?_)
    cases b with
    | true =>
      refine codeAny_handlers_suite_as ?_
      refine HandSPX.lands_againZ fl3 fun h4 fl4 up4 => ?_
      have J4 : Inv X pins σ' H' { s' with heap := h4 } := J.landed nb fl4.1 ((up.trans up3).trans up4) os ag
      obtain ⟨oe4, vs4, he4, hz4, hd4⟩ := fl4.there
      have S4 := J4.suite he4 hd4 na nL nF
      refine store_ok (X := X.suite a ((a, oe4) :: (X.pn ++ pins))) (v := .ref a) S4 hN hi hloc rfl (fun s5 S5 => ?_) (.inr hln)
      refine wpAny_mono ((hsu a oe4 cls d (X.pn ++ pins) hz4 ⟨_, hd4⟩).run [] s5 _ H' _ S5 (hyes rfl a na)) (fun f s6 hsp => ?_) (fun _ _ z => False.elim z)
      have end_ : ∀ {σ6 : L2.St} {H6 : Hp} {Q : Shared → Prop}, Inv (X.suite a ((a, oe4) :: (X.pn ++ pins))) [] σ6 H6 s6 → (∀ s7, Inv X pins (σ6.set i none) H6 s7 → Q s7) →
          wpAny (model X.prog X.w) X.A (do bindName X.env n .none; unbindBehindTheSuite X.env n pos') (fun _ s7 => Q s7) X.xe s6 := fun {σ6 H6 Q} S6 hq => gone_ok (S6.unsuite ok) hN hi hln hq
      cases f with
      | next =>
        obtain ⟨σ6, H6, S6, q6⟩ := hsp
        have P6 := S6.pin (a, oe4) (List.mem_append_left _ List.mem_cons_self)
        have J6 : Inv X pins σ6 H6 s6 := S6.unsuite ok
        have hI : sI.heap.get? a = none := by
          cases e : sI.heap.get? a with
          | none => rfl
          | some o =>
            have z := nb a o e (by rw [hs]; exact nfr)
            have z2 := fl3.2.1
            rw [z] at z2
            cases z2
        have h0 : X.s_0.heap.get? a = none := by
          cases e : X.s_0.heap.get? a with
          | none => rfl
          | some o =>
            obtain ⟨o', z⟩ := J.base.there a o e (by rw [hex]; exact List.not_mem_nil)
            rw [hI] at z
            cases z
        have hC : ∀ y c, X.env.cells.lookup y = some c → c ≠ a := fun y c e z => by
          obtain ⟨v, o, ho, _⟩ := J.cell y c e
          rw [z, hI] at ho
          cases ho
        have hpn : ∀ p ∈ X.pn ++ pins, p.1 ≠ a := fun p hp z => by
          have q := (J.pin p hp).1
          rw [z, hI] at q
          cases q
        have J7 := inv_track J6 h0 P6.2.1 nL hC hpn (exq_ok P6.1 hz4 hd4)
        exact gone_ok J7 hN hi hln fun s7 J8 => ⟨_, _, J8, q6⟩
      | brk =>
        obtain ⟨σ6, H6, S6, q6⟩ := hsp
        exact end_ S6 fun s7 J7 => ⟨_, _, J7, q6⟩
      | cont =>
        obtain ⟨σ6, H6, S6, q6⟩ := hsp
        exact end_ S6 fun s7 J7 => ⟨_, _, J7, q6⟩
      | ret u =>
        obtain ⟨v6, σ6, H6, S6, r6, q6⟩ := hsp
        exact end_ S6 fun s7 J7 => ⟨_, _, _, J7, r6, q6⟩
    | false =>
      show wpAny _ X.A (handleBy (.ref a) X.env []) _ _ _
      refine wpAny_handleBy_nil ?_
      obtain ⟨k1, k2, k3, oe, vs, T, oT, ts', he, hz, hd, h1, hr⟩ := id fl3
      unfold PySem.passOn
      refine wpAny_bind (wpAny_field he hd h1 ?_)
      rw [if_neg (show ¬ ((Value.ref T == Value.none) = true) from by simp)]
      have fin : wpAny (model X.prog X.w) X.A (setFlight (.ref a) X.env.frame) (fun _ s4 => wpAny (model X.prog X.w) X.A (throw (.ref a) : Sem Flow) (SP X pins D) X.xe s4) X.xe { s' with heap := h3 } := by
        rw [hf]
        refine HandSPX.setFlight_upZ fl3 fun h4 hh4 up4 => wpAny_throw (tk _ _ ?_)
        exact ⟨a, B, sI, pins, σ', H', cls, d, rfl, J, nb, (up.trans up3).trans up4, .inr (.inr (by rw [hs]; exact hh4)), na, os, ag, hno rfl⟩
      first
        | exact wpAny_bind (wpAny_pure (wpAny_bind fin))
        | exact wpAny_bind fin
  · cases f with
    | next =>
      obtain ⟨σ', H', J', q⟩ := hsp
      exact wpAny_execs_nil ⟨σ', H', J'.ofTry ok, q⟩
    | brk =>
      obtain ⟨σ', H', J', q⟩ := hsp
      exact ⟨σ', H', J'.ofTry ok, q⟩
    | cont =>
      obtain ⟨σ', H', J', q⟩ := hsp
      exact ⟨σ', H', J'.ofTry ok, q⟩
    | ret u =>
      obtain ⟨v, σ', H', J', r, q⟩ := hsp
      exact ⟨v, σ', H', J'.ofTry ok, r, q⟩
end
end Lo
namespace Lo
open PySem PySem.Spec PySem.Calls PyProof.Rows PySem.W
section
variable {prog : Program} {w : World} {A : Around} {E : Value → Shared → Prop} {s : Shared} {K : Frag} {x D : Addr} {ox : Obj}
theorem kin_classE2 {od : Obj} {Q : Option Value → Shared → Prop} (hga : findIn K (.ref D) "__getattribute__" = some (some (.builtin "BaseException.__getattribute__"))) (hgt : findIn K (.ref D) "__getattr__" = some none) (hsub : subIn K (.ref D) (.type "BaseException") = some true)
    (hdct : hasDictIn K D = true) (ha : findIn K (.ref D) "__class__" = some (some (.builtin "object.__class__")))
    (hn : specialIn K (.builtin "object.__class__") "__get__" = some (some (.builtin "getset_descriptor.__get__"))) (htk : takesIn K (.builtin "object.__class__") = some true) (hm : mroIn K D (.type "object") = some true)
    (X : K.In s.heap) (I : InstAt s.heap x ox D (some od)) (h : Q (some (.ref D)) { s with toks := s.toks + 1 }) : wpAny (model prog w) A (getAttr? (.ref x) "__class__") Q E s := by
  have hf : findObj K D (some od) "__class__" = some (.bind (.builtin "getset_descriptor.__get__") (.builtin "object.__class__")) := findObj_data (by obtain ⟨cd, hc, _⟩ := any_some hdct; rw [hc]; rfl) ha hn htk
  obtain ⟨hp, g, d, t, os⟩ := s
  have L0 := I.type (M := model prog w)
  have L1 := looks_findIn (M := model prog w) X hga
  have L2 := looks_findIn (M := model prog w) X hgt
  have L3 := looks_find (M := model prog w) X I hf
  have sub : Looks (model prog w) hp (isInstance (.ref x) (.type "BaseException")) true := L0.andThen (looks_subIn X hsub)
  have hx0 : (false && onTheHeap (Value.builtin "BaseException.__getattribute__")) = false := rfl
  have hx2 : (Value.builtin "BaseException.__getattribute__" == Value.builtin "object.__getattribute__") = false := by decide +kernel
  have hx1 : (onTheHeap (Value.ref D) && Value.builtin "BaseException.__getattribute__" == Value.builtin "object.__getattribute__") = false := by rw [hx2]; rfl
  unfold getAttr? getAttrBy? getAttrBy
  refine wpAny_bind (wpAny_mkText (wpAny_bind (wpAny_attempt (wpAny_holding (wpAny_bind (L0.at (wpAny_bind (L1.at ?_))))))))
  show wpAny _ _ (if (onTheHeap (Value.ref D) && Value.builtin "BaseException.__getattribute__" == Value.builtin "object.__getattribute__") = true then _ else _) _ _ _
  rw [hx1, if_neg Bool.false_ne_true]
  unfold getAttrByItsOwn hookBefore
  refine wpAny_bind ?_
  rw [if_pos (show onTheHeap (Value.ref D) = true from rfl)]
  refine L2.at ?_
  refine wpAny_bind (wpAny_attempt (wpAny_holding ?_))
  unfold callGetattribute
  rw [hx0, if_neg Bool.false_ne_true]
  unfold boundAndCalled
  rw [PySem.F.excAttr_ValueError.ga.bind (.ref x)]
  refine wpAny_bind (wpAny_pure ?_)
  show wpAny _ _ (call (.builtin "BaseException.__getattribute__") [.ref x, .str "__class__" t]) _ _ _
  refine wpAny_call (codeAny_call_builtin PySem.F.excAttr_ValueError.ga.plain PySem.F.entry_bexc_ga ?_)
  refine @check_slot (model prog w) _ _ ⟨hp, g, d, t + 1, os⟩ "BaseException.__getattribute__" "BaseException" "__getattribute__" (.ref x) [.str "__class__" t] [] _ (by decide +kernel) (by decide +kernel) sub (PySem.F.args_bexc_ga (.ref x) (.str "__class__" t)) ?_
  unfold Builtin.«object.__getattribute__»
  refine wpAny_bind (wpAny_of_eq (a := ((Value.ref x : Value), [Value.str "__class__" t])) (by first | rfl | (simp only [slotArgs]; rfl)) ?_)
  refine wpAny_bind (wpAny_pure (wpAny_bind (L0.at (wpAny_bind (L3.at ?_)))))
  show wpAny _ _ (holding [Value.builtin "object.__class__"] (call (.builtin "getset_descriptor.__get__") [.builtin "object.__class__", .ref x, .ref D]) >>= ret) _ _ _
  refine wpAny_bind (wpAny_holding (wpAny_call (class_get (s := ⟨hp, g, d, t + 1, os⟩) (ox := ox) (od := some od) X I hm ?_)))
  refine wpAny_pure ?_
  show wpAny _ _ (handedOut (.ref D)) _ _ _
  rw [handedOut_of (v := .ref D) rfl]
  first
    | exact wpAny_pure (wpAny_pure h)
    | exact wpAny_pure h
    | exact wpAny_pure (wpAny_bind (wpAny_pure (wpAny_pure h)))
theorem kitx_exc2 (hga : findIn K (.ref D) "__getattribute__" = some (some (.builtin "BaseException.__getattribute__"))) (hgt : findIn K (.ref D) "__getattr__" = some none) (hsub : subIn K (.ref D) (.type "BaseException") = some true) (hdct : hasDictIn K D = true) (ha : findIn K (.ref D) "__class__" = some (some (.builtin "object.__class__")))
    (hn : specialIn K (.builtin "object.__class__") "__get__" = some (some (.builtin "getset_descriptor.__get__"))) (htk : takesIn K (.builtin "object.__class__") = some true) (hm : mroIn K D (.type "object") = some true) :
    KitX K (.ref x) (.ref D) (fun h => ∃ od, InstAt h x ox D (some od)) where
  ty := fun _ _ _ ⟨_, I⟩ => I.type
  it := fun _ _ X _ => by
    obtain ⟨cdD, hcD, _⟩ := any_some hdct
    unfold clsIn at hcD
    split at hcD
    · rename_i c' d' cd' sl' ho
      intro A' Q' E' s' k q
      unfold isType loadHead
      exact wpAny_bind (wpAny_loadPart (k _ _ (X _ _ ho)) (wpAny_pure q))
    · cases hcD
  ne := fun h tp dd its n sl X htp => by
    obtain ⟨cdD, hcD, _⟩ := any_some hdct
    refine Bool.eq_false_iff.mpr fun q => ?_
    have e : D = tp := Value.ref.inj (beq_iff_eq.mp q)
    subst e
    unfold clsIn at hcD
    split at hcD
    · rename_i c' d' cd' sl' ho
      have z := (X _ _ ho).symm.trans htp
      cases z
    · cases hcD
  ca := fun X ⟨_, I⟩ k => kin_classE2 hga hgt hsub hdct ha hn htk hm X I k

end
end Lo
namespace Lo
open PySem PySem.Spec PyProof.Rows L2 StX
/-- its instance's place -/
theorem exq_inst {X : Cx} {pins : List (Addr × Obj)} {σ : L2.St} {H : Hp} {s : Shared} {a C dd : Addr} {fs : List (Str × V)} (I : Inv X pins σ H s) (h : H a = some (exq a (.ref C) (some dd))) (hd : H dd = some (.xd fs)) :
    ∃ (oe od : Obj) (mA : Str → Option Value), PySem.W.InstAt s.heap a oe C (some od) ∧ (∀ n, PySem.W.lookIn n od = some (mA n)) ∧ ∀ f, RelO (fs.lookup f) (mA f) := by
  obtain ⟨oe, vs, ha, hz, hdt⟩ := exq_at I.hok h
  have hx : ObjOk X.prog X.w H s.heap dd (.xd fs) := I.hok dd _ hd
  obtain ⟨mA, hns, hr⟩ := hx
  obtain ⟨od, ho, hl⟩ := lookIn_ns hns
  exact ⟨oe, od, mA, ⟨ha, hz.1, by unfold PySem.W.notCls; rw [hdt] <;> rfl, by rw [hz.2]; exact ho⟩, hl, hr⟩
section
variable {X : Cx} {e : Expr} {te : TE} {n : Str} {C : Addr} {pos : Pos}
/-- e.n, e a caught exception that is known behind its suite -/
theorem pe_xf2 (T : XfC X.K C) (hno : PySem.W.findIn X.K (.ref C) n = some none) (he : PE X e te) (hb : attributeBase e n X.env (eval e X.env) = eval e X.env := by rfl) :
    PE X (.Attribute e n pos) (fun σ H Q => te σ H fun x H1 => ∃ (a dd : Addr) (fs : List (Str × V)) (v : V), x = .ref a ∧ H1 a = some (exq a (.ref C) (some dd)) ∧ H1 dd = some (.xd fs) ∧ fs.lookup n = some v ∧ Q v H1) := by
  refine ⟨fun pins s σ H Q I h => ?_⟩
  refine attr_of hb (thn (he.run pins s σ H _ I h) fun u s1 ⟨x, H1, I1, rx, a, dd, fs, v, ex, ea, ed, l, q⟩ => ?_)
  subst ex
  obtain rfl : u = Value.ref a := rx
  obtain ⟨oe, od, mA, J, hl, hr⟩ := exq_inst I1 ea ed
  obtain ⟨u, hu, ru⟩ := RelO.some_of (v := v) (o := mA n) (by rw [← l]; exact hr n)
  exact HandSPX.exc_get I1.kIn J T.ga T.gg T.exC (PySem.W.findObj_own T.hdC hno rfl (by rw [hl, hu])) (handed_of ru) ⟨v, H1, I1.tok _, ru, q⟩
/-- isinstance of it -/
def rIsE2 (K : PySem.W.Frag) (D : Addr) : List V → Hp → VK → Prop := fun xs H Q => ∃ (a dd : Addr) (fs : List (Str × V)) (c : V) (cv : Value) (b : Bool), xs = [.ref a, c] ∧ H a = some (exq a (.ref D) (some dd)) ∧ H dd = some (.xd fs) ∧ (∀ u, RelV c u → u = cv) ∧ PySem.W.kitOne K (.ref D) cv = some b ∧ Q (.bl b) H
theorem call_isE2 {D : Addr} (C : ExcC X.K D) : CallR X (.builtin "isinstance") (rIsE2 X.K D) := by
  intro pins s σ H xs us Q I r h
  obtain ⟨a, dd, fs, c, cv, b, rfl, ea, ed, hcv, e, q⟩ := h
  cases r with
  | cons rx rr =>
    cases rr with
    | cons rt rr =>
      cases rr
      cases rx
      have ec := hcv _ rt
      subst ec
      obtain ⟨oe, od, mA, J, _, _⟩ := exq_inst I ea ed
      exact PySem.W.kia_one (kitx_exc2 C.hg C.hk C.hs C.hd C.ha C.hn C.ht C.hm) I.kIn ⟨od, J⟩ e (fun z => nomatch z) fun tk => ⟨.bl b, H, I.kept (t' := tk) fun _ _ z => z, rfl, q⟩
end
end Lo
end
section
/-! repr of lists and tuples of data; repr of None, a number, a text. -/
namespace Lo
open PySem PySem.Spec PyProof.Rows L2
section
variable {X : Cx}
def rReprD (K : PySem.W.Frag) : List V → Hp → VK → Prop := fun xs H Q => ∃ p d, xs = [.ref p] ∧ Dp K H (.ref p) d ∧ d.showable = true ∧ d.hasDict = false ∧ d.shown.length ≤ sizeLine ∧ d.depth ≤ 8 ∧ Q (.str d.shown) H
theorem call_reprD (hg : X.A.guards = some []) (hu : X.A.units + 64 < cLine) : CallR X (.builtin "repr") (rReprD X.K) := by
  intro pins s σ H xs us Q I r h
  obtain ⟨p, d, rfl, hd, h1, h2, h3, h4, q⟩ := h
  obtain ⟨u, rfl, ru⟩ := vals1 r
  obtain rfl : u = Value.ref p := ru
  obtain ⟨as, rd⟩ := Dp.reads I d _ _ hd rfl
  refine repr_of_reads' rd h1 (PyData.noDict_hsm h2) hg (by omega) (fun _ _ e => e) (fun h' u tk hk => ?_) h3
  exact ⟨.str _, H, I.kept hk, ⟨_, rfl⟩, q⟩
/-- repr of None, a number, a text -/
def reprV : V → Str
  | .int i => toString i
  | .str x => reprText x
  | _ => "None"
def reprOk : V → Prop
  | .non => True
  | .int i => i.natAbs.log2 < 1920
  | .str x => (reprText x).length ≤ sizeLine
  | _ => False
theorem call_reprA : CallR X (.builtin "repr") (fun xs H Q => ∃ x, xs = [x] ∧ reprOk x ∧ Q (.str (reprV x)) H) := by
  intro pins s σ H xs us Q I r h
  obtain ⟨x, rfl, hx, q⟩ := h
  obtain ⟨u, rfl, ru⟩ := vals1 r
  cases x with
  | non =>
    cases (show u = Value.none from ru)
    exact PySem.P.repr_of_none ⟨.str _, H, I.tok _, ⟨_, rfl⟩, q⟩
  | int i =>
    obtain ⟨t, rfl⟩ := (show ∃ t, u = Value.int i t from ru)
    exact PySem.P.repr_of_int hx ⟨.str _, H, I.tok _, ⟨_, rfl⟩, q⟩
  | str x =>
    obtain ⟨t, rfl⟩ := (show ∃ t, u = Value.str x t from ru)
    exact PySem.P.repr_of_str ⟨.str _, H, I.tok _, ⟨_, rfl⟩, q⟩ hx
  | bl b => exact hx.elim
  | byt b => exact hx.elim
  | flt b => exact hx.elim
  | ref b => exact hx.elim
  | ty b => exact hx.elim
end
/-! sizes -/
theorem sum_le {l : List Nat} {b : Nat} (h : ∀ x ∈ l, x ≤ b) : l.sum ≤ l.length * b := by
  induction l with
  | nil => simp
  | cons x l ih =>
    have h1 := h x List.mem_cons_self
    have h2 := ih fun y hy => h y (List.mem_cons_of_mem _ hy)
    rw [List.sum_cons, List.length_cons, Nat.succ_mul]
    omega
theorem shownAll_eq (ds : List PyData) : PyData.shownAll ds = ds.map PyData.shown := by
  induction ds with
  | nil => rfl
  | cons d ds ih => simp only [PyData.shownAll, List.map_cons, ih]
theorem listLen {ds : List PyData} {n b : Nat} (hn : ds.length ≤ n) (hb : ∀ d ∈ ds, d.shown.length ≤ b) : (PyData.shown (.list ds)).length ≤ n * b + 2 * n + 3 := by
  simp only [PyData.shown]
  have h := listText_len_le (PyData.shownAll ds)
  rw [shownAll_eq, List.map_map, List.length_map] at h
  have h2 : ((ds.map ((fun t : Str => t.length) ∘ PyData.shown))).sum ≤ ds.length * b := by
    have := sum_le (l := ds.map ((fun t : Str => t.length) ∘ PyData.shown)) (b := b) (fun x hx => by
      obtain ⟨d, hd, rfl⟩ := List.mem_map.mp hx
      exact hb d hd)
    rwa [List.length_map] at this
  have h3 : ds.length * b ≤ n * b := Nat.mul_le_mul_right b hn
  rw [shownAll_eq]
  omega
theorem tupLen {ds : List PyData} {n b : Nat} (hn : ds.length ≤ n) (hb : ∀ d ∈ ds, d.shown.length ≤ b) : (PyData.shown (.tuple ds)).length ≤ n * b + 2 * n + 3 := by
  simp only [PyData.shown]
  have h := tupleText_len_le (PyData.shownAll ds)
  rw [shownAll_eq, List.map_map, List.length_map] at h
  have h2 : ((ds.map ((fun t : Str => t.length) ∘ PyData.shown))).sum ≤ ds.length * b := by
    have := sum_le (l := ds.map ((fun t : Str => t.length) ∘ PyData.shown)) (b := b) (fun x hx => by
      obtain ⟨d, hd, rfl⟩ := List.mem_map.mp hx
      exact hb d hd)
    rwa [List.length_map] at this
  have h3 : ds.length * b ≤ n * b := Nat.mul_le_mul_right b hn
  rw [shownAll_eq]
  omega
theorem intLen {i : Int} {b : Nat} (h : i.natAbs + 2 ≤ b) : (PyData.shown (.int i)).length ≤ b := by
  simp only [PyData.shown]
  have h1 := PyProof.Rows.len_str_of_int i
  show (PySem.Str.ofString (toString i)).length ≤ b
  omega
end Lo
end
section
/-! enumerate over a tuple. -/
namespace Lo
open PySem PySem.Spec PyProof.Rows L2
open PySem.AutoSeq1 (wpAny_loadPart')
theorem meets_enumT (l : Addr) (items : Array Value) (n : Nat) (dct : Option Addr) (sl : Array (Option Value)) :
    Meets (Builtin.«enumerate.__new__» ⟨[.type "enumerate", .ref l], []⟩) (fun _ R s => s.heap.get? l = some { cls := .type "tuple", dict := dct, data := .seq items n, slots := sl } ∧
      R (.ok (.ret (.ref (s.heap.push { cls := .type "tuple_iterator", data := .fields #[.ref l, .int 0 0] }).objs.size)))
        { s with heap := (s.heap.push { cls := .type "tuple_iterator", data := .fields #[.ref l, .int 0 0] }).push { cls := .type "enumerate", data := .fields #[.none, .bool false, .ref s.heap.objs.size, rawInt 0, .none, .none] } }) :=
  .of_wp fun prog w A R s h => by
    obtain ⟨hp, g, d, tk, os⟩ := s; obtain ⟨hl, h⟩ := h
    have hsub := sub_enumerate
    have hL : Heap.IsTuple (Shared.heap ⟨hp, g, d, tk, os⟩) l items := ⟨_, hl, rfl, n, rfl⟩
    wp_walk using wpAny_loadPart' hl
    refine wpAny_stack_any fun st => wpAny_pure ?_
    split
    · rename_i c _ _ _ _ _
      cases (c == Value.type "enumerate")
      · wp_walk using wpAny_loadPart' hl, wpAny_pyIter_tuple hL
        exact ⟨_, rfl, h⟩
      · wp_walk using wpAny_loadPart' hl, wpAny_pyIter_tuple hL
        exact ⟨_, rfl, h⟩
    · wp_walk using wpAny_loadPart' hl, wpAny_pyIter_tuple hL
      exact ⟨_, rfl, h⟩
section
variable {prog : Program} {w : World} {A : Around} {E : Value → Shared → Prop} {s : Shared}
theorem call_enum_tuple {l : Addr} {items : Array Value} {Q : Value → Shared → Prop} (hL : s.heap.IsTuple l items)
    (h : ∀ h', IsEnum h' (s.heap.objs.size + 1) s.heap.objs.size 0 .none → h'.IsTupleIter s.heap.objs.size l 0 → h'.objs.size = s.heap.objs.size + 2 →
      (∀ b o, s.heap.get? b = some o → h'.get? b = some o) → Q (.ref (s.heap.objs.size + 1)) { s with heap := h' }) :
    wpAny (model prog w) A (call (.type "enumerate") [.ref l]) Q E s := by
  obtain ⟨⟨c, dct, dt, sl⟩, hl, hc, n, hd⟩ := hL
  replace hc : c = .type "tuple" := hc
  replace hd : dt = .seq items n := hd
  subst hc hd
  refine callType_new F.called_enumerate (by decide) (F.typeCall_enumerate_1 _) (F.newCall_enumerate_1 _) (fun obj => F.args_object_init_2 obj _) F.entry_enumerate_new
    (meets_enumT l items n dct sl) ⟨hl, ?_⟩
  have hz : (s.heap.push { cls := .type "tuple_iterator", data := .fields #[.ref l, .int 0 0] }).objs.size = s.heap.objs.size + 1 := Heap.size_push ..
  show _ ∧ _
  rw [hz]
  have he : IsEnum ((s.heap.push { cls := .type "tuple_iterator", data := .fields #[.ref l, .int 0 0] }).push
      { cls := .type "enumerate", data := .fields #[.none, .bool false, .ref s.heap.objs.size, rawInt 0, .none, .none] }) (s.heap.objs.size + 1) s.heap.objs.size 0 .none := by
    have := Heap.get?_push_size (s.heap.push { cls := .type "tuple_iterator", data := .fields #[.ref l, .int 0 0] })
      (o := { cls := .type "enumerate", data := .fields #[.none, .bool false, .ref s.heap.objs.size, rawInt 0, .none, .none] }) rfl
    rw [hz] at this; exact this
  refine ⟨⟨_, he, rfl⟩, h _ he ⟨_, Heap.get?_push_of_some _ (Heap.get?_push_size _ rfl), rfl, rfl⟩ (by rw [Heap.size_push, hz]) fun b o x => Heap.get?_push_of_some _ (Heap.get?_push_of_some _ x)⟩
theorem nextOf_tuple_item {it t : Addr} {i : Nat} {items} {x : Value} {Q : Value → Shared → Prop} (hit : s.heap.IsTupleIter it t i)
    (ht : s.heap.IsTuple t items) (hx : items[i]? = some x)
    (hQ : ∀ h', h'.IsTupleIter it t (i + 1) → Heap.SameBut it s.heap h' → Q x { s with heap := h' }) :
    wpAny (model prog w) A (Builtin.SmallTypes.nextOf (.ref it)) Q E s := by
  obtain ⟨o, ho, hc, hd⟩ := id hit
  obtain ⟨ol, hol, _, nl, hdl⟩ := ht
  unfold Builtin.SmallTypes.nextOf
  refine wpAny_bind (wpAny_callSpecial?_slot (name := Str.ofString "__next__") hit.typeIs F.slot_tuple_iterator_next
    (wpAny_call_entry F.slot_tuple_iterator_next hit.typeIs F.entry_tuple_iterator_next ?_ (F.args_tuple_iterator_next_1 _)))
  show wpAny _ _ (field (.ref it) 0 >>= _) _ _ s
  refine wpAny_bind (wpAny_field ho hd (x := .ref t) rfl ?_)
  show wpAny _ _ (if (Value.ref t == Value.none) = true then _ else _) _ _ s
  rw [if_neg (show ¬ ((Value.ref t == Value.none) = true) from Bool.false_ne_true)]
  show wpAny _ _ (field (.ref it) 1 >>= _) _ _ s
  refine wpAny_bind (wpAny_field ho hd (x := .int i 0) rfl ?_)
  show wpAny _ _ (seqItems? (.ref t) >>= _) _ _ s
  refine wpAny_bind (wpAny_seqItems hol hdl ?_)
  simp only [Int.toNat_natCast, hx]
  refine wpAny_bind (wpAny_setField ho hd (by simp) (wpAny_pure ⟨x, rfl, wpAny_pure (hQ _ ?_ (Heap.SameBut.update ..))⟩))
  exact ⟨_, Heap.get?_update_self _ ho (Obj.isFreed_of_fields (Obj.data_mapFields hd _)), (Obj.cls_mapFields ..).trans hc, by
    rw [Obj.data_mapFields hd]; simp [rawInt]⟩
theorem nextOf_tuple_end {it t : Addr} {i : Nat} {items} {Q : Value → Shared → Prop} (hh : A.handled = none)
    (hit : s.heap.IsTupleIter it t i) (ht : s.heap.IsTuple t items) (hx : items[i]? = none)
    (hE : ∀ h' e, Heap.ExtBut it s.heap h' → (∃ o, h'.get? e = some o ∧ o.cls = .type "StopIteration") → E (.ref e) { s with heap := h' }) :
    wpAny (model prog w) A (Builtin.SmallTypes.nextOf (.ref it)) Q E s := by
  obtain ⟨o, ho, hc, hd⟩ := id hit
  obtain ⟨ol, hol, _, nl, hdl⟩ := ht
  unfold Builtin.SmallTypes.nextOf
  refine wpAny_bind (wpAny_callSpecial?_slot (name := Str.ofString "__next__") hit.typeIs F.slot_tuple_iterator_next
    (wpAny_call_entry F.slot_tuple_iterator_next hit.typeIs F.entry_tuple_iterator_next ?_ (F.args_tuple_iterator_next_1 _)))
  show wpAny _ _ (field (.ref it) 0 >>= _) _ _ s
  refine wpAny_bind (wpAny_field ho hd (x := .ref t) rfl ?_)
  show wpAny _ _ (if (Value.ref t == Value.none) = true then _ else _) _ _ s
  rw [if_neg (show ¬ ((Value.ref t == Value.none) = true) from Bool.false_ne_true)]
  show wpAny _ _ (field (.ref it) 1 >>= _) _ _ s
  refine wpAny_bind (wpAny_field ho hd (x := .int i 0) rfl ?_)
  show wpAny _ _ (seqItems? (.ref t) >>= _) _ _ s
  refine wpAny_bind (wpAny_seqItems hol hdl ?_)
  simp only [Int.toNat_natCast, hx]
  refine wpAny_bind (wpAny_rule (wpAny_bind (wpAny_setField ho hd (by simp) ?_)))
  show wpAny _ _ (newExc (.type "StopIteration") [] >>= _) _ _ _
  refine wpAny_bind ?_
  simp only [newExc, newTuple]
  refine wpAny_bind (wpAny_newObj_type ?_ (by size_fits))
  refine wpAny_bind (m := firstArgMember _ _) (wpAny_of_eq (a := Value.none) (by first | rfl | (simp only [firstArgMember]; rfl)) ?_)
  refine wpAny_newObj_type ?_ (by size_fits)
  simp only [raiseNew]
  refine wpAny_bind (wpAny_handled ?_)
  first | rw [show A.in1.handled = none from hh] | rw [hh]
  refine wpAny_bind (wpAny_pure (wpAny_throw ?_))
  exact hE _ _ (((Heap.SameBut.update ..).extBut.push _).push _) ⟨_, Heap.get?_push_size _ rfl, rfl⟩
theorem pyNext_enumT_end {e it l : Addr} {i : Nat} {items : Array Value} {old : Value} {Q : Option Value → Shared → Prop} (hh : A.handled = none)
    (he : IsEnum s.heap e it i old) (hit : s.heap.IsTupleIter it l i) (hl : s.heap.IsTuple l items) (hx : items[i]? = none)
    (hQ : ∀ h', Heap.ExtBut it s.heap h' → Q none { s with heap := h' }) : wpAny (model prog w) A (pyNext (.ref e)) Q E s := by
  have hT : s.TypeIs (.ref e) "enumerate" := ⟨_, he, rfl⟩
  unfold pyNext
  refine wpAny_bind (wpAny_attempt (wpAny_callSpecial?_slot (name := Str.ofString "__next__") hT F.slot_enumerate_next
    (wpAny_call_entry F.slot_enumerate_next hT F.entry_enumerate_next ?_ (F.args_enumerate_next_1 _))))
  show wpAny _ _ (field (.ref e) 2 >>= _) _ _ _
  refine wpAny_bind (wpAny_field he rfl (x := .ref it) rfl ?_)
  refine wpAny_bind (nextOf_tuple_end hh hit hl hx fun h' x he' hx' => ?_)
  obtain ⟨o, ho, hc⟩ := hx'
  refine wpAny_bind (wpAny_isInstance (T := "StopIteration") (b := true) ⟨o, ho, hc⟩ isSubtype_stop ?_)
  exact wpAny_pure (hQ _ he')
theorem isTuple_keep {h h' : Heap} {t : Addr} {its : Array Value} (x : h.IsTuple t its) (k : ∀ o, h.get? t = some o → h'.get? t = some o) : h'.IsTuple t its := let ⟨o, e, r⟩ := x; ⟨o, k o e, r⟩
theorem draws_tuple (hh : A.handled = none) (it l : Addr) (hne : l ≠ it) (items : Array Value) :
    Draws prog w A it [it, l] items.size (fun i v => items[i]? = some v) (fun i h => h.IsTupleIter it l i ∧ h.IsTuple l items) where
  live := fun _ _ st => let ⟨o, ho, _⟩ := st.1; ⟨o, ho⟩
  frame := fun _ _ _ st hk => ⟨st.1.at fun o e => hk it (by simp) o e, isTuple_keep st.2 fun o e => hk l (by simp) o e⟩
  item := fun i s Q E hi st hQ => by
    refine nextOf_tuple_item st.1 st.2 (x := items[i]) (by simp [hi]) fun h' hit' hs' => ?_
    exact hQ _ h' s.toks (by simp [hi]) ⟨hit', isTuple_keep st.2 fun o e => hs'.extBut l o hne e⟩ hs'
  done := fun s Q E st hE => nextOf_tuple_end hh st.1 st.2 (by simp) hE
end
/-- the tuple at a, each item in a new pair -/
def Itet (K : PySem.W.Frag) (a : Addr) : It :=
  ⟨fun i H => ∃ (xs : List V) (x : V), SqT K H a xs ∧ xs[i]? = some x, fun i H v H' => ∃ T x, v = .ref T ∧ H T = none ∧ H' = upd H T (.tup [.int (i : Nat), x]) ∧ ∀ xs, SqT K H a xs → xs[i]? = some x, fun i H => ∃ xs : List V, SqT K H a xs ∧ xs.length ≤ i⟩
theorem tupIter_ne {h : Heap} {it a : Addr} {i : Nat} {its : Array Value} (x : h.IsTupleIter it a i) (y : h.IsTuple a its) : a ≠ it := by
  obtain ⟨o, ho, hc, hd⟩ := x
  obtain ⟨o', ho', hc', _⟩ := y
  intro e
  subst e
  rw [ho] at ho'; cases ho'
  rw [hc] at hc'
  exact absurd (Value.type.inj hc') (by decide)
theorem turn_enumT {P : Program} {w : World} {K : PySem.W.Frag} {elts : List Expr} {kk : Nat} {tpos : Pos} (a e it : Addr) :
    Turn P w K (.Tuple elts kk tpos) (Itet K a) [e, it] e (fun i h => (∃ old, IsEnum h e it ((i : Nat) : Int) old) ∧ h.IsTupleIter it a i ∧ e ≠ it) where
  mem := by simp
  obj := fun i h st b hb => by
    obtain ⟨⟨old, he⟩, ⟨o, ho, hc, hd⟩, _⟩ := st
    have e' : b = e ∨ b = it := by simpa using hb
    rcases e' with z | z
    · rw [z]; exact ⟨_, he, fun v q => nomatch q⟩
    · rw [z]; exact ⟨o, ho, fun v q => by rw [hd] at q; cases q⟩
  keep := fun i h h' st k => let ⟨⟨old, he⟩, hi, hne⟩ := st; ⟨⟨old, k e (by simp) _ he⟩, hi.at fun o q => k it (by simp) o q, hne⟩
  item := by
    intro X hP hw hK hc i pins s σ H E I hf st hg
    subst hP hw hK
    obtain ⟨⟨old, he⟩, hit, hne⟩ := st
    obtain ⟨xs, x, hq, hx⟩ := hg
    obtain ⟨its, rv, p, hz⟩ := I.tuple hq
    obtain ⟨u, hu, ru⟩ := rv.get hx
    have pT : s.heap.IsTuple a its.toArray := p
    have hel : e < s.heap.objs.size := Heap.lt_size he
    have hil : it < s.heap.objs.size := by obtain ⟨_, q, _⟩ := hit; exact Heap.lt_size q
    have hae : e ≠ a := fun z => by
      obtain ⟨o', ho', hc', _⟩ := pT
      rw [← z, he] at ho'; cases ho'
      exact absurd (Value.type.inj hc') (by decide)
    have hlt : i < its.toArray.size := by
      have := List.getElem?_eq_some_iff.mp hu
      obtain ⟨z, _⟩ := this
      simpa using z
    refine wpAny_pyNext_enum_itemD (draws_tuple (prog := X.prog) (w := X.w) (A := X.A.in1) (show X.A.in1.handled = none from I.ok.hd hc) it a (tupIter_ne hit pT) its.toArray) he ⟨hit, pT⟩ hlt hne (by simp [hne, hae]) fun y h' tk hy ho hst hT hsz hk => ?_
    have ey : y = u := by
      have e1 : its.toArray[i]? = some u := by simpa using hu
      exact Option.some.inj (hy.symm.trans e1)
    subst ey
    refine ⟨_, rfl, wpAny_letOwnedTupleGo_enum (s := { s with heap := h', toks := tk + 1 }) ho fun h'' he' sb => ?_⟩
    have hT2 : h''.get? s.heap.objs.size = some { cls := .type "tuple", data := .seq #[.int i tk, y] } := (sb.2 _ (Nat.ne_of_gt hel)).trans hT
    have new : ObjOk X.prog X.w (upd H s.heap.objs.size (.tup [.int (i : Nat), x])) h'' s.heap.objs.size (.tup [.int (i : Nat), x]) :=
      ⟨by show 2 ≤ sizeLine; decide, [.int i tk, y], .cons ⟨_, rfl⟩ (.cons ru .nil), ⟨_, hT2, rfl, _, rfl⟩⟩
    have I1 : Inv X pins σ (upd H s.heap.objs.size (.tup [.int (i : Nat), x])) { s with heap := h'', toks := tk + 1 } :=
      I.turnedNew (ch := [e, it]) (fun b ob hb q => (sb.2 b (fun z => hb (by simp [z]))).trans (hk b ob (fun z => hb (by simp [z])) (fun z => hb (by simp [z])) q)) hf (Nat.le_refl _) new
    refine ⟨.ref s.heap.objs.size, _, I1, rfl, ⟨_, x, rfl, I.hok.fresh (Nat.le_refl _), rfl, fun ys hy => by rw [I.tuple_inj hy hq]; exact hx⟩, ⟨⟨y, ?_⟩, hst.1.at fun o q => (sb.2 it (Ne.symm hne)).trans q, hne⟩, fun b hb => ?_⟩
    · have e1 : ((i + 1 : Nat) : Int) = (i : Int) + 1 := by omega
      rw [e1]; exact he'
    · have hb' : b < s.heap.objs.size := by
        have e' : b = e ∨ b = it := by simpa using hb
        rcases e' with z | z
        · rw [z]; exact hel
        · rw [z]; exact hil
      rw [upd_ne (Nat.ne_of_lt hb')]
      exact (hf b hb).1
  done := by
    intro X hP hw hK hc i pins s σ H E I hf st hg
    subst hP hw hK
    obtain ⟨⟨old, he⟩, hit, hne⟩ := st
    obtain ⟨xs, hq, hx⟩ := hg
    obtain ⟨its, rv, p, hz⟩ := I.tuple hq
    have pT : s.heap.IsTuple a its.toArray := p
    obtain ⟨f0, f1, f2, f3, f4, f5⟩ := hf it (by simp)
    have hl := rv.length
    exact pyNext_enumT_end (I.ok.hd hc) he hit pT (by simp; omega) fun h' eb => ⟨rfl, I.turned (t' := s.toks) (fun b o hb q => eb b o hb q) f0 f1 f3 f4 f5⟩
  self := fun A i s Q E st h => let ⟨⟨_, he⟩, _⟩ := st; wpAny_pyIter_enum he h
def iEnumT (K : PySem.W.Frag) (ta : TA) : TI := fun σ H R => ta σ H fun vs H1 => ∃ a xs, vs = [.ref a] ∧ SqT K H1 a xs ∧ R (Itet K a) H1
theorem pi_enumT {X : Cx} {e : Expr} {ta : TA} {p pos tpos : Pos} {elts : List Expr} {kk : Nat} (hg : Gl X "enumerate") (hm : X.mg "enumerate" = none) (ha : PA X [e] ta) (hs : starEach [e] X.env = [(false, eval e X.env)] := by rfl) :
    PI X (.Tuple elts kk tpos) (.Call (.Name "enumerate" p) [e] [] pos) (iEnumT X.K ta) := by
  refine ⟨fun pins s σ H R I h => ?_⟩
  refine Call_ (ld_blt I hg hm boot_enumerate (PyProof.Rows.callWith_type1 (thn (ha.run pos pins s σ H _ I h) fun us s1 ⟨vs, H1, I1, r1, q1⟩ => ?_) hs rfl))
  obtain ⟨a, xs, ex, hq, q⟩ := q1
  subst ex
  cases r1 with
  | cons r rr =>
    cases rr
    cases r
    obtain ⟨its, rv, p', hz⟩ := I1.tuple hq
    have pT : s1.heap.IsTuple a its.toArray := p'
    refine call_enum_tuple pT fun h' he hit hsz hk => wpAny_pyIter_enum he ?_
    have I2 : Inv X pins σ H1 { s1 with heap := h' } := I1.kept (t' := s1.toks) hk
    refine ⟨s1.heap.objs.size + 1, [s1.heap.objs.size + 1, s1.heap.objs.size], _, _, H1, rfl, I2, turn_enumT a (s1.heap.objs.size + 1) s1.heap.objs.size, ⟨⟨.none, he⟩, hit, Nat.succ_ne_self _⟩, fun b hb => ?_, q⟩
    have e' : b = s1.heap.objs.size + 1 ∨ b = s1.heap.objs.size := by simpa using hb
    have hle : s1.heap.objs.size ≤ b := by
      rcases e' with z | z
      · rw [z]; exact Nat.le_add_right _ _
      · rw [z]; exact Nat.le_refl _
    exact I1.fpOk hle (I1.hok.fresh hle)
end Lo
end
section
/-! Lambdas with captured names, of any number of parameters, handed on and called elsewhere. -/
namespace Lo
open PySem PySem.Spec PyProof.Rows L2 StX LamX NdefX
/-- the function object of a lambda: its words as an NF (its list of statements is empty), its body -/
def LamO (f : Addr) (F : NF) (body : Expr) : HO := .ext fun h => ∃ (od : Option Addr) (sl : Array (Option Value)) (pm ctv : Value), h.get? f = some (⟨.type "function", od, .func (PySem.W.kla_fn F.name F.qual F.params body F.scope F.cl pm (.ref F.c) ctv), sl⟩ : Obj)
theorem lamO_at {P : Program} {w : World} {H : Hp} {h : Heap} {f : Addr} {F : NF} {body : Expr} (hok : HOk P w H h) (e : H f = some (LamO f F body)) :
    ∃ (od : Option Addr) (sl : Array (Option Value)) (pm ctv : Value), h.get? f = some (⟨.type "function", od, .func (PySem.W.kla_fn F.name F.qual F.params body F.scope F.cl pm (.ref F.c) ctv), sl⟩ : Obj) := by
  obtain ⟨q, _, _⟩ := hok f _ e
  exact q
section
variable {X : Cx} {pins : List (Addr × Obj)} {σ : L2.St} {H : Hp} {s : Shared}
theorem inv_lam {F : NF} {body : Expr} {o : Obj} {t' : Nat} {pm ctv : Value} (I : Inv X pins σ H s) (ho : o = { cls := .type "function", data := .func (PySem.W.kla_fn F.name F.qual F.params body F.scope F.cl pm (.ref F.c) ctv) }) :
    Inv X pins σ (upd H s.heap.objs.size (LamO s.heap.objs.size F body)) { s with heap := s.heap.push o, toks := t' } := by
  subst ho
  refine I.laid (a := s.heap.objs.size) (fun b u e => Heap.get?_push_of_some _ e) (Nat.le_refl _) ?_
  have e : (s.heap.push ({ cls := .type "function", data := .func (PySem.W.kla_fn F.name F.qual F.params body F.scope F.cl pm (.ref F.c) ctv) } : Obj)).get? s.heap.objs.size = some ({ cls := .type "function", data := .func (PySem.W.kla_fn F.name F.qual F.params body F.scope F.cl pm (.ref F.c) ctv) } : Obj) := Heap.get?_push_size _ rfl
  exact ⟨⟨_, _, pm, ctv, e⟩, ⟨_, e⟩, fun h1 h2 ⟨od, sl, p, t, z⟩ st => ⟨od, sl, p, t, st _ z⟩⟩
abbrev lamF (X : Cx) (params : Arguments) (scope : Scope) (c' : Addr) : NF := ⟨"<lambda>", X.env.qual ++ "<lambda>", params, [], scope, cloFrom X.env.cells scope.names [], c'⟩
theorem lam_make3 {T : List (Addr × Str)} {c P : Addr} {params : Arguments} {body : Expr} {scope : Scope} {pos : Pos} {E : Value → Shared → Prop} {Q : Value → Shared → Prop} (I : Inv X pins σ H s) (TB : TabB X.base X.mg c P) (hcode : X.env.code = .ref c)
    (hm : (P, X.env.qual ++ "<lambda>") ∈ T) (hu : ∀ p ∈ T, p.1 = P → p.2 = X.env.qual ++ "<lambda>") (hT : Tabs T H) (hdef : defaultsOf params X.env = ([], [])) (hfree : ∀ y ∈ scope.names, y.2 = .free → ∃ c, X.env.cells.lookup y.1 = some c)
    (h : ∀ (f c' : Addr) (H1 : Hp) (s' : Shared), Inv X pins σ H1 s' → ExtN H H1 → (∀ b, H1 b = Option.none → H b = Option.none) → Tabs T H1 → H f = none → H1 f = some (LamO f (lamF X params scope c') body) → H1 c' = some (CodeO c' (X.env.qual ++ "<lambda>")) → c' ≠ f → Q (.ref f) s') :
    wpAny (model X.prog X.w) X.A (eval (.Lambda params body scope pos) X.env) Q E s := by
  obtain ⟨ps, hP, ht, ha⟩ := hT _ hm
  refine PySem.W.kla_eval hdef ?_
  have bP : s.heap.BuiltinsAt X.mg P := TB.bm.keeps I.bk
  have hP' : s.heap.get? P = some { cls := .none, data := .fields ps } := I.hok P _ hP
  cases hc : codeAmong pos ps.toList with
  | none =>
    refine PySem.W.kla_makeFunction (mg := X.mg) (c := c) (P := P) (ps := ps) (closure_ok hfree) I.ok.glob (I.mod.glob.keeps I.bk) hcode (TB.code.keeps I.bk) hP' ht hc TB.gP bP fun c' ctv h' tk hx hge hlt hrec htb => ?_
    obtain ⟨c2, oc, vs, t, e2, hoc, hd, hv⟩ := hrec
    cases e2
    have nC : H c' = none := I.hok.fresh hge
    have I1 := inv_table (t' := tk) (more := #[rawInt pos.line, rawInt pos.col, .ref c']) (h' := h') I hP (fun b o hb e => hx b o hb e) htb hge ⟨oc, vs, t, hoc, hd, hv⟩
    have hE : ExtN H (upd (upd H P (.tbl (ps ++ #[rawInt pos.line, rawInt pos.col, .ref c']))) c' (CodeO c' (X.env.qual ++ "<lambda>"))) := fun b o e n => by
      rw [upd_ne (ne_of_none e nC), upd_ne (fun z => n ps (Option.some.inj (e.symm.trans (by rw [z]; exact hP))))]
      exact e
    have eL : (ps ++ #[rawInt pos.line, rawInt pos.col, .ref c']).toList = ps.toList ++ [rawInt pos.line, rawInt pos.col, .ref c'] := by simp
    have T1 : Tabs T (upd (upd H P (.tbl (ps ++ #[rawInt pos.line, rawInt pos.col, .ref c']))) c' (CodeO c' (X.env.qual ++ "<lambda>"))) := fun p hp => by
      by_cases hb : p.1 = P
      · rw [hu p hp hb, hb]
        refine ⟨_, by rw [upd_ne (ne_of_none hP nC), upd_same], by rw [eL]; exact PySem.TriplesOk_snoc _ _ _ _ ht, fun p' cv hcv => ?_⟩
        rw [eL] at hcv
        rcases among_app _ ht hcv with z | z
        · obtain ⟨c0, e1, e2⟩ := ha p' cv z
          exact ⟨c0, e1, hE _ _ e2 codeO_ne⟩
        · exact ⟨c', z, upd_same⟩
      · obtain ⟨ps', a1, a2, a3⟩ := hT p hp
        refine ⟨ps', by rw [upd_ne (ne_of_none a1 nC), upd_ne hb]; exact a1, a2, fun p' cv hcv => ?_⟩
        obtain ⟨c0, e1, e2⟩ := a3 p' cv hcv
        exact ⟨c0, e1, hE _ _ e2 codeO_ne⟩
    have nF := I1.hok.fresh (Nat.le_refl _)
    have I2 := inv_lam (F := lamF X params scope c') (body := body) (t' := tk) (pm := (X.mg "__name__").getD .none) (ctv := ctv) I1 rfl
    refine h h'.objs.size c' _ _ I2 (fun b o e n => ?_) (fun b e => upd_none (upd_none (upd_none e))) (T1.ext fun b o e => ?_) (I.hok.fresh (Nat.le_trans hge (Nat.le_of_lt hlt))) upd_same ?_ (Nat.ne_of_lt hlt)
    · have e1 := hE b o e n
      exact (upd_ne (ne_of_none e1 nF)).trans e1
    · exact (upd_ne (ne_of_none e nF)).trans e
    · exact (upd_ne (Nat.ne_of_lt hlt)).trans upd_same
  | some cv =>
    obtain ⟨c', e, hco⟩ := ha pos cv hc
    subst e
    refine PySem.W.kla_makeFunctionHit (mg := X.mg) (c := c) (P := P) (ps := ps) (closure_ok hfree) I.ok.glob (I.mod.glob.keeps I.bk) hcode (TB.code.keeps I.bk) hP' ht hc bP fun ctv h' tk hx hsz => ?_
    have I1 : Inv X pins σ H { s with heap := h', toks := tk } := I.kept hx
    have nF : H h'.objs.size = none := I1.hok.fresh (Nat.le_refl _)
    have I2 := inv_lam (F := lamF X params scope c') (body := body) (t' := tk) (pm := (X.mg "__name__").getD .none) (ctv := ctv) I1 rfl
    refine h h'.objs.size c' _ _ I2 (fun b o e n => ?_) (fun b e => upd_none e) (hT.ext fun b o e => ?_) nF upd_same ?_ (ne_of_none hco nF)
    · exact (upd_ne (ne_of_none e nF)).trans e
    · exact (upd_ne (ne_of_none e nF)).trans e
    · exact (upd_ne (ne_of_none hco nF)).trans hco
end
/-- lambda ..: body, as a value -/
def tLamE (X : Cx) (T : List (Addr × Str)) (params : Arguments) (body : Expr) (scope : Scope) : TE := fun σ H Q => Tabs T H ∧ ∀ (f c' : Addr) (H1 : Hp), ExtN H H1 → (∀ b, H1 b = Option.none → H b = Option.none) → Tabs T H1 → H f = none → H1 f = some (LamO f (lamF X params scope c') body) → H1 c' = some (CodeO c' (X.env.qual ++ "<lambda>")) → c' ≠ f → Q (.ref f) H1
theorem pe_lam {X : Cx} {T : List (Addr × Str)} {c P : Addr} {params : Arguments} {body : Expr} {scope : Scope} {pos : Pos} (TB : TabB X.base X.mg c P) (hcode : X.env.code = .ref c)
    (hm : (P, X.env.qual ++ "<lambda>") ∈ T) (hu : ∀ p ∈ T, p.1 = P → p.2 = X.env.qual ++ "<lambda>") (hdef : defaultsOf params X.env = ([], [])) (hfr : ∀ y ∈ scope.names, y.2 = .free → X.env.scope.names.lookup y.1 = some .cell ∨ X.env.scope.names.lookup y.1 = some .free) :
    PE X (.Lambda params body scope pos) (tLamE X T params body scope) := by
  refine ⟨fun pins s σ H Q I h => ?_⟩
  obtain ⟨hT, h⟩ := h
  have hf : ∀ y ∈ scope.names, y.2 = .free → ∃ c, X.env.cells.lookup y.1 = some c := fun y hy e => (hfr y hy e).elim (fun z => I.ok.has _ (.inl z)) fun z => I.ok.has _ (.inr z)
  exact lam_make3 I TB hcode hm hu hT hdef hf fun f c' H1 s' I1 a b c d e g n => ⟨.ref f, H1, I1, rfl, h f c' H1 a b c d e g n⟩
/-! ### what a lambda promises -/
structure LamOk (P : Program) (w : World) (K : PySem.W.Frag) (mg : Str → Option Value) (base : Heap) (CX : CXT) (k : Nat) (f : Addr) (F : NF) (body : Expr) (fr : List Str) (sp : List (Option V) → Sp) : Prop where
  run : ∀ (A : Around) (outer : List Env) (s : Shared) (H : Hp) (us : List Value) (vs : List V) (ws : List (Option V)) (Q : VK) (E : XK), Room k A → Env0 P w K mg base A outer s H → H f = some (LamO f F body) → H F.c = some (CodeO F.c F.qual) →
    CellsAt F.cl fr ws s.heap H → Vals vs us → sp ws vs H Q E → codeAny (model P w) A (.call (.ref f) ⟨us, []⟩) (CR CX outer P w H s Q E) s
section
variable {CX : CXT} {P : Program} {w : World} {K : PySem.W.Frag} {mg : Str → Option Value} {base : Heap} {N ps fr : List Str} {F : NF} {body : Expr} {f : Addr} {k j : Nat} {sp : List (Option V) → Sp}
theorem lamOk_of (S : NScope N ps fr F.scope) (hb : ∀ (pm ctv : Value) (us : List Value), us.length = ps.length → bindArgs (PySem.W.kla_fn F.name F.qual F.params body F.scope F.cl pm (.ref F.c) ctv) ⟨us, []⟩ = pure (ps.zip us)) (len : ∀ ws vs H Q E, sp ws vs H Q E → vs.length = ps.length)
    (hbody : ∀ (A : Around) (outer : List Env) (s : Shared) (H : Hp) (vs : List V) (ws : List (Option V)) (Q : VK) (E : XK), Room k (A.deeper (envF F f s.heap.objs.size)) → ws.length = fr.length → sp ws vs H Q E →
      ∃ t, PE (ncx CX P w K mg base N F f A outer s H E) body t ∧ t (startF N vs ws) H Q) :
    LamOk P w K mg base CX (k + 1) f F body fr sp := by
  refine ⟨fun A outer s H us vs ws Q E hr e0 hf hc C r hsp => ?_⟩
  have hl := len _ _ _ _ _ hsp
  have lim : s.heap.NoLimit := e0.mod.nolimit.keeps fun b o e => (e0.bs b o e).1
  obtain ⟨od, sl, pm, ctv, ho⟩ := lamO_at e0.hok hf
  refine PySem.W.kla_callFunE hr.depth ho rfl S.co S.gen rfl (codeO_at e0.hok hc) ?_
  rw [hb pm ctv us (by rw [← r.length]; exact hl)]
  refine wpAny_pure (wpAny_newFunctionEnv S.nocell (fun ⟨n, _⟩ hy => S.par n (List.of_mem_zip hy).1) (fun h₁ hns hsb => ⟨lim.fresh _ hsb, ?_⟩) S.kind)
  show codeAny _ _ (.expr body (envF F f s.heap.objs.size)) _ _
  have kp : ∀ b o, s.heap.get? b = some o → h₁.get? b = some o := fun b o e => hsb.extBut b o (Nat.ne_of_lt (Heap.lt_size e)) (Heap.get?_push_of_some _ e)
  obtain ⟨t, ht, hq⟩ := hbody A outer s H vs ws Q E (hr.deeper _) C.len hsp
  have I : Inv (ncx CX P w K mg base N F f A outer s H E) [] (startF N vs ws) H { s with heap := h₁, toks := s.toks + (ps.zip us).length } := inv_startN S hr.hd e0 hl r C hns kp
  refine PySem.W.kla_codeExpr (wpAny_mono (ht.run [] _ (startF N vs ws) H _ I hq) (fun v s' hq => ?_) fun e s' hs => hs)
  obtain ⟨w', H', J, rv, q⟩ := hq
  exact ⟨w', H', J.os, J.bare, J.base, J.hok, rv, q⟩
end
/-- no captured cell is the frame of a def that runs -/
def FrOk (cl : List (Str × Addr)) (A : Around) : Prop := ∀ l, A.frames = some l → ∀ y c, cl.lookup y = some c → c ∉ frs l
/-- a lambda stands at f, its captured cells hold ws: called with vs it promises sp -/
def LamSt (P : Program) (w : World) (K : PySem.W.Frag) (mg : Str → Option Value) (base : Heap) (CX : CXT) (k : Nat) (f : Addr) (sp : Sp) (A : Around) (s : Shared) (H : Hp) : Prop :=
  ∃ (F : NF) (body : Expr) (fr : List Str) (ws : List (Option V)) (spf : List (Option V) → Sp), LamOk P w K mg base CX k f F body fr spf ∧ CellsAt F.cl fr ws s.heap H ∧ H f = some (LamO f F body) ∧ H F.c = some (CodeO F.c F.qual) ∧ sp = spf ws ∧ FrOk F.cl A
section
variable {X : Cx} {CX : CXT} {pins : List (Addr × Obj)} {σ : L2.St} {H : Hp} {s : Shared} {f : Addr} {k j i : Nat} {sp : Sp} {E : XK} {x : Str} {e : Expr} {es : List Expr} {t : TA} {p pos : Pos} {A0 : Around}
theorem LamSt.mono {P : Program} {w : World} {K : PySem.W.Frag} {mg : Str → Option Value} {base : Heap} {sp : Sp} (L : LamSt P w K mg base CX j f sp A0 s H) (h : j ≤ k) : LamSt P w K mg base CX k f sp A0 s H := by
  obtain ⟨F, body, fr, ws, spf, h1, h2, h3, h4, h5, h6⟩ := L
  exact ⟨F, body, fr, ws, spf, ⟨fun A outer s H us vs ws Q E hr => h1.run A outer s H us vs ws Q E (hr.mono h)⟩, h2, h3, h4, h5, h6⟩
theorem LamSt.later (L : LamSt X.prog X.w X.K X.mg X.base CX k f sp A0 X.s_0 X.H_0) (hA : A0.frames = some X.outer) (hex : X.ex = []) (I : Inv X pins σ H s) (kf : ∀ F body, X.H_0 f = some (LamO f F body) → H f = some (LamO f F body)) (kc : ∀ c q, X.H_0 c = some (CodeO c q) → H c = some (CodeO c q)) :
    LamSt X.prog X.w X.K X.mg X.base CX k f sp X.A s H := by
  obtain ⟨F, body, fr, ws, spf, h1, h2, h3, h4, h5, h6⟩ := L
  have nf : ∀ y c, F.cl.lookup y = some c → c ∉ X.fs := fun y c e z => h6 _ hA y c e z
  refine ⟨F, body, fr, ws, spf, h1, h2.later nf (fun y c e z => ?_) I, kf _ _ h3, kc _ _ h4, h5, fun l hl y c e z => ?_⟩
  · rw [hex] at z
    cases z
  · have el : l = X.stack := Option.some.inj (hl.symm.trans I.ok.frames)
    subst el
    rcases List.mem_cons.mp (I.stkSub _ z) with q | q
    · obtain ⟨_, v, o, ho, hd⟩ := h2.all y c e
      have lt := Heap.lt_size ho
      have ab := I.ok.above
      rw [← q] at ab
      exact Nat.lt_irrefl _ (Nat.lt_of_lt_of_le lt ab)
    · exact nf y c e q
theorem LamSt.at (L : LamSt X.prog X.w X.K X.mg X.base CX k f sp A0 s H) (I : Inv X pins σ H s) : PySem.W.FnAt f s.heap := by
  obtain ⟨F, body, fr, ws, spf, h1, h2, h3, h4, h5, h6⟩ := L
  obtain ⟨od, sl, pm, ctv, ho⟩ := lamO_at I.hok h3
  exact ⟨_, od, _, sl, ho⟩
theorem run_lam {Q : VK} {us : List Value} {vs : List V} (L : LamSt X.prog X.w X.K X.mg X.base CX k f sp A0 s H) (hr : Room k X.A) (hx : Passes CX X E) (I : Inv X pins σ H s) (r : Vals vs us) (q : sp vs H Q E) :
    wpAny (model X.prog X.w) X.A (call (.ref f) us) (EP X pins σ Q) X.xe s := by
  obtain ⟨F, body, fr, ws, spf, h1, h2, h3, h4, h5, h6⟩ := L
  subst h5
  refine wpAny_call (codeAny_mono (h1.run X.A X.stack s H us vs _ Q E hr I.env0 h3 h4 h2 r q) fun r s' hq => ?_)
  cases r with
  | error e => exact hx pins σ H s e s' I hq
  | ok fl =>
    cases fl with
    | ret u => exact I.after hq
    | next => exact False.elim hq
    | brk => exact False.elim hq
    | cont => exact False.elim hq
/-- the objects that a lambda's call leans on stand as at the entry -/
def LamKp (X : Cx) (f : Addr) (H : Hp) : Prop := (∀ F body, X.H_0 f = some (LamO f F body) → H f = some (LamO f F body)) ∧ ∀ c q, X.H_0 c = some (CodeO c q) → H c = some (CodeO c q)
/-- f(e, ..), f a name that holds a lambda -/
def tCallLam (X : Cx) (CX : CXT) (k i : Nat) (E : XK) (t : TA) : TE := fun σ H Q => ∃ f sp A0, σ[i]? = some (some (.ref f)) ∧ A0.frames = some X.outer ∧ LamSt X.prog X.w X.K X.mg X.base CX k f sp A0 X.s_0 X.H_0 ∧ LamKp X f H ∧ t σ H fun vs H1 => LamKp X f H1 ∧ sp vs H1 Q E
theorem pe_callLam (hex : X.ex = []) (hr : Room k X.A) (hx : Passes CX X E) (hN : X.N[i]? = some x) (hv : Vis X.env.scope x) (ha : PA X (e :: es) t)
    (hd : (x == ("__debug__" : Str)) = false := by decide) (hcd : (x == ("__classdict__" : Str)) = false := by decide)
    (he : starEach (e :: es) X.env = (false, eval e X.env) :: starEach es X.env := by rfl) (hpl : (backTo pos (starEach es X.env)).any (·.1) = false := by rfl) :
    PE X (.Call (.Name x p) (e :: es) [] pos) (tCallLam X CX k i E t) := by
  refine ⟨fun pins s σ H Q I h => ?_⟩
  obtain ⟨f, sp, A0, hs, hA, L, ⟨k1, k2⟩, ht⟩ := h
  refine wpAny_Call_Name_kw (thn ((pe_var (pos := p) hN hv hd hcd).run pins s σ H (fun v H1 => v = .ref f ∧ H1 = H) I ⟨.ref f, hs, rfl, rfl⟩) fun u s1 ⟨v, H1, I1, r1, q1⟩ => ?_)
  obtain ⟨ev, eH⟩ := q1
  subst ev
  rw [eH] at I1
  obtain rfl : u = Value.ref f := r1
  refine PySem.W.callWith_F (first := []) ((L.later hA hex I1 k1 k2).at I1) (thn (ha.run pos pins s1 σ H _ I1 ht) fun us s2 ⟨vs, H2, I2, r, ⟨k3, k4⟩, q⟩ => ⟨(L.later hA hex I2 k3 k4).at I2, ?_⟩) he hpl
  exact run_lam (L.later hA hex I2 k3 k4) hr hx I2 r q
theorem pe_callLam0 (hex : X.ex = []) (hr : Room k X.A) (hx : Passes CX X E) (hN : X.N[i]? = some x) (hv : Vis X.env.scope x)
    (hd : (x == ("__debug__" : Str)) = false := by decide) (hcd : (x == ("__classdict__" : Str)) = false := by decide) :
    PE X (.Call (.Name x p) [] [] pos) (tCallLam X CX k i E tNil) := by
  refine ⟨fun pins s σ H Q I h => ?_⟩
  obtain ⟨f, sp, A0, hs, hA, L, ⟨k1, k2⟩, ht⟩ := h
  obtain ⟨_, q⟩ := ht
  refine wpAny_Call_Name_kw (thn ((pe_var (pos := p) hN hv hd hcd).run pins s σ H (fun v H1 => v = .ref f ∧ H1 = H) I ⟨.ref f, hs, rfl, rfl⟩) fun u s1 ⟨v, H1, I1, r1, q1⟩ => ?_)
  obtain ⟨ev, eH⟩ := q1
  subst ev
  rw [eH] at I1
  obtain rfl : u = Value.ref f := r1
  refine PySem.W.callWith_F0 (first := []) ((L.later hA hex I1 k1 k2).at I1) ?_
  exact run_lam (L.later hA hex I1 k1 k2) hr hx I1 .nil q
/-- in the frame of the def that made it -/
theorem LamSt.made {F : NF} {body : Expr} {fr : List Str} {js : List Nat} {spf : List (Option V) → Sp} (I : Inv X pins σ H s) (o : LamOk X.prog X.w X.K X.mg X.base CX k f F body fr spf) (c : Caps X F.cl fr js) (hfn : ∀ x, X.fn x = true) (h3 : H f = some (LamO f F body)) (h4 : H F.c = some (CodeO F.c F.qual)) :
    LamSt X.prog X.w X.K X.mg X.base CX k f (spf (js.map (slotAt σ))) X.A s H := by
  refine ⟨F, body, fr, _, spf, o, cells_of I c, h3, h4, rfl, fun l hl y a e z => ?_⟩
  have el : l = X.stack := Option.some.inj (hl.symm.trans I.ok.frames)
  subst el
  have e' := c.sub y a e
  rcases List.mem_cons.mp (I.stkSub _ z) with q | q
  · exact I.cne y a e' q
  · obtain ⟨_, o, ho, _⟩ := I.ok.funs.mem q
    exact Nat.lt_irrefl _ (Nat.lt_of_lt_of_le (Heap.lt_size ho) (I.ok.cab y a (hfn y) e'))
end
end Lo
end
section
set_option autoImplicit false
/-! The data layer: values as trees over a frozen part of the heap, beside mutable things at known addresses. -/
namespace Da
open PySem PySem.Spec PyProof.Rows L2 StX LamX NdefX
inductive Dat where
  | at (v : V)
  | dic (kvs : List (Int × Dat))
  | lst (xs : List Dat)
  | tup (xs : List Dat)
  | ins (C : Addr) (fs : List (Str × Dat))
  | clo (f : Addr) (F : NF) (body : Expr) (ws : List V) (wd : List Dat)
  | obj (a : Addr) (os : List (Addr × HO))
abbrev Dat.int (i : Int) : Dat := .at (.int i)
abbrev Dat.bl (b : Bool) : Dat := .at (.bl b)
abbrev Dat.non : Dat := .at .non
abbrev Dat.str (z : Str) : Dat := .at (.str z)
abbrev Dat.ptr (p : Addr) : Dat := .at (.ref p)
/-- what stands stays -/
def Ex (H H' : Hp) : Prop := ∀ a o, H a = some o → H' a = some o
theorem Ex.refl {H : Hp} : Ex H H := fun _ _ h => h
theorem Ex.trans {H H' H'' : Hp} (a : Ex H H') (b : Ex H' H'') : Ex H H'' := fun c o h => b c o (a c o h)
theorem Ex.nil {H H' : Hp} {a : Addr} (e : Ex H H') (h : H' a = none) : H a = none := by
  cases q : H a with
  | none => rfl
  | some o => rw [e a o q] at h; cases h
theorem Ex.upd {H : Hp} {a : Addr} {o : HO} (h : H a = none) : Ex H (upd H a o) := fun b u e => by
  rw [upd_ne (ne_of_none e h)]; exact e
theorem Ex.upds {D H : Hp} {a : Addr} {o : HO} (e : Ex D H) (h : D a = none) : Ex D (L2.upd H a o) := fun b u q => by
  rw [upd_ne (ne_of_none q h)]; exact e b u q
theorem Ex.upd2 {D H : Hp} {a : Addr} {o : HO} (e : Ex D H) : Ex (L2.upd D a o) (L2.upd H a o) := fun b u q => by
  by_cases h : b = a
  · subst h; rw [upd_same] at q ⊢; exact q
  · rw [upd_ne h] at q ⊢; exact e b u q
theorem rdEx {H H' : Hp} {a : Addr} {u : HO} (e : Ex H H') (h : Rd H a u) : Rd H' a u := by
  rcases h with h | ⟨o, h⟩
  · exact .inl (e _ _ h)
  · exact .inr ⟨o, e _ _ h⟩
theorem sqlEx {K : PySem.W.Frag} {H H' : Hp} {a : Addr} {xs : List V} (e : Ex H H') (h : SqL K H a xs) : SqL K H' a xs := by
  rcases h with h | h
  · exact .inl (rdEx e h)
  · exact .inr h
theorem sqtEx {K : PySem.W.Frag} {H H' : Hp} {a : Addr} {xs : List V} (e : Ex H H') (h : SqT K H a xs) : SqT K H' a xs := by
  rcases h with h | h
  · exact .inl (rdEx e h)
  · exact .inr h
mutual
inductive Rep (K : PySem.W.Frag) (D : Hp) : V → Dat → Prop
  | at {v} : Rep K D v (.at v)
  | lst {a xs ds} : D a = some (.lst xs) → Reps K D xs ds → Rep K D (.ref a) (.lst ds)
  | tup {a xs ds} : D a = some (.tup xs) → Reps K D xs ds → Rep K D (.ref a) (.tup ds)
  | ins {a C dx fs ds} : D a = some (.ins C dx fs) → RepF K D fs ds → Rep K D (.ref a) (.ins C ds)
  | dic {a ks kvs} : D a = some (.dK ks) → RepK K D ks kvs → Rep K D (.ref a) (.dic kvs)
  | clo {f F body ws wd} : D f = some (Lo.LamO f F body) → D F.c = some (CodeO F.c F.qual) → Reps K D ws wd → Rep K D (.ref f) (.clo f F body ws wd)
  | obj {a os} : (∀ p ∈ os, D p.1 = some p.2) → Rep K D (.ref a) (.obj a os)
inductive Reps (K : PySem.W.Frag) (D : Hp) : List V → List Dat → Prop
  | nil : Reps K D [] []
  | cons {v vs d ds} : Rep K D v d → Reps K D vs ds → Reps K D (v :: vs) (d :: ds)
inductive RepF (K : PySem.W.Frag) (D : Hp) : List (Str × V) → List (Str × Dat) → Prop
  | nil : RepF K D [] []
  | cons {f v fs d ds} : Rep K D v d → RepF K D fs ds → RepF K D ((f, v) :: fs) ((f, d) :: ds)
inductive RepK (K : PySem.W.Frag) (D : Hp) : List (Key × V) → List (Int × Dat) → Prop
  | nil : RepK K D [] []
  | cons {k v ks d kvs} : Rep K D v d → RepK K D ks kvs → RepK K D ((.inl k, v) :: ks) ((k, d) :: kvs)
end
section
variable {K : PySem.W.Frag} {D D' H H' : Hp}
theorem Rep.mono {v : V} {d : Dat} (h : Rep K D v d) (e : Ex D D') : Rep K D' v d :=
  Rep.rec (motive_1 := fun v d _ => Rep K D' v d) (motive_2 := fun vs ds _ => Reps K D' vs ds) (motive_3 := fun fs ds _ => RepF K D' fs ds) (motive_4 := fun fs ds _ => RepK K D' fs ds)
      .at (fun a _ c => .lst (e _ _ a) c) (fun a _ c => .tup (e _ _ a) c) (fun a _ c => .ins (e _ _ a) c) (fun a _ c => .dic (e _ _ a) c) (fun a b _ c => .clo (e _ _ a) (e _ _ b) c) (fun a => .obj fun p hp => e _ _ (a p hp)) .nil (fun _ _ a b => .cons a b) .nil (fun _ _ a b => .cons a b) .nil (fun _ _ a b => .cons a b) h
theorem Reps.mono {v : List V} {d : List Dat} (h : Reps K D v d) (e : Ex D D') : Reps K D' v d :=
  Reps.rec (motive_1 := fun v d _ => Rep K D' v d) (motive_2 := fun vs ds _ => Reps K D' vs ds) (motive_3 := fun fs ds _ => RepF K D' fs ds) (motive_4 := fun fs ds _ => RepK K D' fs ds)
      .at (fun a _ c => .lst (e _ _ a) c) (fun a _ c => .tup (e _ _ a) c) (fun a _ c => .ins (e _ _ a) c) (fun a _ c => .dic (e _ _ a) c) (fun a b _ c => .clo (e _ _ a) (e _ _ b) c) (fun a => .obj fun p hp => e _ _ (a p hp)) .nil (fun _ _ a b => .cons a b) .nil (fun _ _ a b => .cons a b) .nil (fun _ _ a b => .cons a b) h
theorem RepF.mono {v : List (Str × V)} {d : List (Str × Dat)} (h : RepF K D v d) (e : Ex D D') : RepF K D' v d :=
  RepF.rec (motive_1 := fun v d _ => Rep K D' v d) (motive_2 := fun vs ds _ => Reps K D' vs ds) (motive_3 := fun fs ds _ => RepF K D' fs ds) (motive_4 := fun fs ds _ => RepK K D' fs ds)
      .at (fun a _ c => .lst (e _ _ a) c) (fun a _ c => .tup (e _ _ a) c) (fun a _ c => .ins (e _ _ a) c) (fun a _ c => .dic (e _ _ a) c) (fun a b _ c => .clo (e _ _ a) (e _ _ b) c) (fun a => .obj fun p hp => e _ _ (a p hp)) .nil (fun _ _ a b => .cons a b) .nil (fun _ _ a b => .cons a b) .nil (fun _ _ a b => .cons a b) h
theorem RepK.mono {v : List (Key × V)} {d : List (Int × Dat)} (h : RepK K D v d) (e : Ex D D') : RepK K D' v d :=
  RepK.rec (motive_1 := fun v d _ => Rep K D' v d) (motive_2 := fun vs ds _ => Reps K D' vs ds) (motive_3 := fun fs ds _ => RepF K D' fs ds) (motive_4 := fun fs ds _ => RepK K D' fs ds)
      .at (fun a _ c => .lst (e _ _ a) c) (fun a _ c => .tup (e _ _ a) c) (fun a _ c => .ins (e _ _ a) c) (fun a _ c => .dic (e _ _ a) c) (fun a b _ c => .clo (e _ _ a) (e _ _ b) c) (fun a => .obj fun p hp => e _ _ (a p hp)) .nil (fun _ _ a b => .cons a b) .nil (fun _ _ a b => .cons a b) .nil (fun _ _ a b => .cons a b) h
theorem Reps.length : ∀ {vs : List V} {ds : List Dat}, Reps K D vs ds → vs.length = ds.length
  | _, _, .nil => rfl
  | _, _, .cons _ t => congrArg (· + 1) (Reps.length t)
theorem Reps.get : ∀ {vs : List V} {ds : List Dat} {i : Nat} {d : Dat}, Reps K D vs ds → ds[i]? = some d → ∃ v, vs[i]? = some v ∧ Rep K D v d
  | _, _, _, _, .nil, e => by simp at e
  | _, _, 0, _, .cons r _, e => by simp at e; subst e; exact ⟨_, rfl, r⟩
  | _, _, i + 1, _, .cons _ t, e => by
    obtain ⟨v, h1, h2⟩ := Reps.get (i := i) t (by simpa using e)
    exact ⟨v, by simpa using h1, h2⟩
theorem Reps.get' : ∀ {vs : List V} {ds : List Dat} {i : Nat} {v : V}, Reps K D vs ds → vs[i]? = some v → ∃ d, ds[i]? = some d ∧ Rep K D v d
  | _, _, _, _, .nil, e => by simp at e
  | _, _, 0, _, .cons r _, e => by simp at e; subst e; exact ⟨_, rfl, r⟩
  | _, _, i + 1, _, .cons _ t, e => by
    obtain ⟨v, h1, h2⟩ := Reps.get' (i := i) t (by simpa using e)
    exact ⟨v, by simpa using h1, h2⟩
theorem Reps.append : ∀ {vs ws : List V} {ds es : List Dat}, Reps K D vs ds → Reps K D ws es → Reps K D (vs ++ ws) (ds ++ es)
  | _, _, _, _, .nil, s => s
  | _, _, _, _, .cons r t, s => .cons r (Reps.append t s)
theorem Reps.take : ∀ {vs : List V} {ds : List Dat} (n : Nat), Reps K D vs ds → Reps K D (vs.take n) (ds.take n)
  | _, _, 0, _ => by rw [List.take_zero, List.take_zero]; exact .nil
  | _, _, _ + 1, .nil => .nil
  | _, _, n + 1, .cons r t => .cons r (Reps.take n t)
theorem Reps.drop : ∀ {vs : List V} {ds : List Dat} (n : Nat), Reps K D vs ds → Reps K D (vs.drop n) (ds.drop n)
  | _, _, 0, r => r
  | _, _, _ + 1, .nil => .nil
  | _, _, n + 1, .cons _ t => Reps.drop n t
theorem Reps.set : ∀ {vs : List V} {ds : List Dat} (n : Nat) {v : V} {d : Dat}, Reps K D vs ds → Rep K D v d → Reps K D (vs.set n v) (ds.set n d)
  | _, _, _, _, _, .nil, _ => .nil
  | _, _, 0, _, _, .cons _ t, q => .cons q t
  | _, _, n + 1, _, _, .cons r t, q => .cons r (Reps.set n t q)
theorem RepF.length : ∀ {vs : List (Str × V)} {ds : List (Str × Dat)}, RepF K D vs ds → vs.length = ds.length
  | _, _, .nil => rfl
  | _, _, .cons _ t => congrArg (· + 1) (RepF.length t)
theorem RepF.lookup : ∀ {vs : List (Str × V)} {ds : List (Str × Dat)} {f : Str} {d : Dat}, RepF K D vs ds → ds.lookup f = some d → ∃ v, vs.lookup f = some v ∧ Rep K D v d
  | _, _, _, _, .nil, e => by cases e
  | _, _, f, d, .cons (f := g) (d := d') r t, e => by
    rw [List.lookup_cons] at e ⊢
    by_cases h : (f == g) = true
    · rw [h] at e ⊢; cases e; exact ⟨_, rfl, r⟩
    · rw [Bool.not_eq_true] at h; rw [h] at e ⊢; exact RepF.lookup t e
theorem RepF.lookup_none : ∀ {vs : List (Str × V)} {ds : List (Str × Dat)} {f : Str}, RepF K D vs ds → ds.lookup f = none → vs.lookup f = none
  | _, _, _, .nil, _ => rfl
  | _, _, f, .cons (f := g) (d := d') r t, e => by
    rw [List.lookup_cons] at e ⊢
    by_cases h : (f == g) = true
    · rw [h] at e; cases e
    · rw [Bool.not_eq_true] at h; rw [h] at e ⊢; exact RepF.lookup_none t e
end
/-- the same store to a list of fields, by data -/
def putD (f : Str) (v : Dat) : List (Str × Dat) → List (Str × Dat)
  | [] => [(f, v)]
  | (g, u) :: r => if g = f then (g, v) :: r else (g, u) :: putD f v r

theorem RepF.put {K : PySem.W.Frag} {D : Hp} {f : Str} {v : V} {d : Dat} (q : Rep K D v d) : ∀ {vs : List (Str × V)} {ds : List (Str × Dat)}, RepF K D vs ds → RepF K D (putF f v vs) (putD f d ds)
  | _, _, .nil => .cons q .nil
  | _, _, .cons (f := g) r t => by
    unfold putF putD
    by_cases h : g = f
    · rw [if_pos h, if_pos h]; exact .cons q t
    · rw [if_neg h, if_neg h]; exact .cons r (RepF.put q t)
/-- a mutable thing -/
inductive MO where
  | ml (xs : List Dat)
  | mi (C : Addr) (fs : List (Str × Dat))
  | md (kvs : List (Int × Dat))
abbrev MM := Addr → Option MO
def MM.set (M : MM) (p : Addr) (o : MO) : MM := fun q => if q = p then some o else M q
def MM.del (M : MM) (p : Addr) : MM := fun q => if q = p then none else M q
theorem MM.set_same {M : MM} {p : Addr} {o : MO} : M.set p o p = some o := by unfold MM.set; rw [if_pos rfl]
theorem MM.set_ne {M : MM} {p q : Addr} {o : MO} (h : q ≠ p) : M.set p o q = M q := by unfold MM.set; rw [if_neg h]
theorem MM.set_set {M : MM} {p : Addr} {o u : MO} : (M.set p o).set p u = M.set p u := by funext q; unfold MM.set; split <;> rfl
theorem MM.set_self {M : MM} {p : Addr} {o : MO} (h : M p = some o) : M.set p o = M := by
  funext q; unfold MM.set; split
  · rename_i e; rw [e, h]
  · rfl
theorem MM.del_set {M : MM} {p : Addr} {o : MO} (h : M p = none) : (M.set p o).del p = M := by
  funext q; unfold MM.del
  by_cases e : q = p
  · rw [if_pos e, e, h]
  · rw [if_neg e, MM.set_ne e]
theorem MM.set_comm {M : MM} {p q : Addr} {o u : MO} (h : p ≠ q) : (M.set p o).set q u = (M.set q u).set p o := by
  funext r; unfold MM.set
  by_cases h1 : r = q
  · subst h1; rw [if_pos rfl, if_neg (fun z => h z.symm), if_pos rfl]
  · rw [if_neg h1]
    by_cases h2 : r = p
    · rw [if_pos h2, if_pos h2]
    · rw [if_neg h2, if_neg h2, if_neg h1]
def MOk (K : PySem.W.Frag) (D H : Hp) (p : Addr) : MO → Prop
  | .ml ds => ∃ xs, H p = some (.lst xs) ∧ Reps K D xs ds
  | .mi C ds => ∃ dx fs, H p = some (.ins C dx fs) ∧ RepF K D fs ds
  | .md kvs => ∃ ks, H p = some (.dK ks) ∧ RepK K D ks kvs
abbrev TL := List (Addr × Str)
structure Sat (K : PySem.W.Frag) (T : TL) (D : Hp) (M : MM) (H : Hp) : Prop where
  ex : Ex D H
  mu : ∀ p o, M p = some o → D p = none ∧ MOk K D H p o
  tb : Tabs T H
  nt : ∀ a ps, D a ≠ some (.tbl ps)
/-- a step forward: what is frozen stays, what is not mutable is kept -/
structure Fw (K : PySem.W.Frag) (T : TL) (M : MM) (D H : Hp) (M' : MM) (D' H' : Hp) : Prop where
  ex : Ex D D'
  sat : Sat K T D' M' H'
  kp : ∀ a o, H a = some o → M a = none → (∀ ps, o ≠ .tbl ps) → H' a = some o
  nm : ∀ a o, H a = some o → M a = none → M' a = none ∧ ∃ o', H' a = some o'
  fr : ∀ a o, H a = some o → M a = none → D a = none → (∀ ps, o ≠ .tbl ps) → (∀ φ, o ≠ .ext φ) → D' a = none
section
variable {K : PySem.W.Frag} {T : TL} {D D' D'' H H' H'' : Hp} {M M' M'' : MM} {p : Addr} {o : MO} {u : HO}
theorem Fw.refl (s : Sat K T D M H) : Fw K T M D H M D H := ⟨Ex.refl, s, fun _ _ h _ _ => h, fun _ o h m => ⟨m, o, h⟩, fun _ _ _ _ d _ _ => d⟩
theorem Fw.trans (a : Fw K T M D H M' D' H') (b : Fw K T M' D' H' M'' D'' H'') : Fw K T M D H M'' D'' H'' :=
  ⟨a.ex.trans b.ex, b.sat, fun c o h m n => b.kp c o (a.kp c o h m n) (a.nm c o h m).1 n, fun c o h m => by
    obtain ⟨m', o', h'⟩ := a.nm c o h m
    exact b.nm c o' h' m', fun c o h m d n1 n2 => b.fr c o (a.kp c o h m n1) (a.nm c o h m).1 (a.fr c o h m d n1 n2) n1 n2⟩
theorem MOk.mono {p : Addr} {o : MO} (h : MOk K D H p o) (e : Ex D D') (e' : ∀ u, H p = some u → H' p = some u) : MOk K D' H' p o := by
  cases o with
  | ml ds => obtain ⟨xs, h1, h2⟩ := h; exact ⟨xs, e' _ h1, h2.mono e⟩
  | mi C ds => obtain ⟨dx, fs, h1, h2⟩ := h; exact ⟨dx, fs, e' _ h1, h2.mono e⟩
  | md ks => obtain ⟨xs, h1, h2⟩ := h; exact ⟨xs, e' _ h1, h2.mono e⟩
theorem MOk.some {p : Addr} {o : MO} (h : MOk K D H p o) : ∃ u, H p = some u ∧ (∀ ps, u ≠ .tbl ps) ∧ (∀ φ, u ≠ .ext φ) ∧ Mut (some u) := by
  cases o with
  | ml ds => obtain ⟨xs, h1, h2⟩ := h; exact ⟨_, h1, (fun _ z => by cases z), (fun _ z => by cases z), trivial⟩
  | mi C ds => obtain ⟨dx, fs, h1, h2⟩ := h; exact ⟨_, h1, (fun _ z => by cases z), (fun _ z => by cases z), trivial⟩
  | md ks => obtain ⟨xs, h1, h2⟩ := h; exact ⟨_, h1, (fun _ z => by cases z), (fun _ z => by cases z), trivial⟩
theorem Sat.mne (s : Sat K T D M H) (h : M p = some o) {q : Addr} (hq : H q = none) : p ≠ q := by
  obtain ⟨u, e, _⟩ := (s.mu p o h).2.some
  exact ne_of_none e hq
theorem Sat.mfree (s : Sat K T D M H) {q : Addr} (hq : H q = none) : M q = none := by
  cases e : M q with
  | none => rfl
  | some o => exact absurd rfl (s.mne e hq)
/-- a new frozen object -/
theorem Sat.new (s : Sat K T D M H) (hp : H p = none) (o : HO) (ho : ∀ ps, o ≠ .tbl ps := by intro _ z; cases z) : Fw K T M D H M (upd D p o) (upd H p o) := by
  have dp := s.ex.nil hp
  have k : ∀ b u, H b = some u → upd H p o b = some u := fun b u e => by rw [upd_ne (ne_of_none e hp)]; exact e
  refine ⟨Ex.upd dp, ⟨s.ex.upd2, fun q mo hq => ?_, s.tb.ext k, fun a ps z => ?_⟩, fun a u e _ _ => k a u e, fun a u e m => ⟨m, u, k a u e⟩, fun a u e m d _ _ => by rw [upd_ne (ne_of_none e hp)]; exact d⟩
  · obtain ⟨h1, h2⟩ := s.mu q mo hq
    have n := s.mne hq hp
    exact ⟨by rw [upd_ne n]; exact h1, h2.mono (Ex.upd dp) fun u e => by rw [upd_ne n]; exact e⟩
  · by_cases h : a = p
    · rw [h, upd_same] at z; exact ho ps (Option.some.inj z)
    · rw [upd_ne h] at z; exact s.nt a ps z
/-- a new object beside, unfrozen and unseen -/
theorem Sat.side (s : Sat K T D M H) (hp : H p = none) (o : HO) : Fw K T M D H M D (upd H p o) := by
  have dp := s.ex.nil hp
  have k : ∀ b u, H b = some u → upd H p o b = some u := fun b u e => by rw [upd_ne (ne_of_none e hp)]; exact e
  refine ⟨Ex.refl, ⟨s.ex.upds dp, fun q mo hq => ?_, s.tb.ext k, s.nt⟩, fun a u e _ _ => k a u e, fun a u e m => ⟨m, u, k a u e⟩, fun _ _ _ _ d _ _ => d⟩
  obtain ⟨h1, h2⟩ := s.mu q mo hq
  have n := s.mne hq hp
  exact ⟨h1, h2.mono Ex.refl fun u e => by rw [upd_ne n]; exact e⟩
/-- an object that is neither frozen nor mutable is written -/
theorem Sat.aside (s : Sat K T D M H) {u : HO} (hp : H p = some u) (hd : D p = none) (hm : M p = none) (h1 : ∀ ps, u ≠ .tbl ps) (h2 : ∀ φ, u ≠ .ext φ) (o : HO) (tb : Tabs T (upd H p o)) : Sat K T D M (upd H p o) := by
  refine ⟨s.ex.upds hd, fun q mo hq => ?_, tb, s.nt⟩
  obtain ⟨h1, h2⟩ := s.mu q mo hq
  have n : q ≠ p := fun z => by rw [z, hm] at hq; cases hq
  exact ⟨h1, h2.mono Ex.refl fun u e => by rw [upd_ne n]; exact e⟩
/-- a new mutable object -/
theorem Sat.newM (s : Sat K T D M H) (hp : H p = none) {o : HO} {mo : MO} (hm : MOk K D (upd H p o) p mo) : Fw K T M D H (M.set p mo) D (upd H p o) := by
  have dp := s.ex.nil hp
  have k : ∀ b u, H b = some u → upd H p o b = some u := fun b u e => by rw [upd_ne (ne_of_none e hp)]; exact e
  refine ⟨Ex.refl, ⟨s.ex.upds dp, fun q mo' hq => ?_, s.tb.ext k, s.nt⟩, fun a u e _ _ => k a u e, fun a u e m => ⟨by rw [MM.set_ne (ne_of_none e hp)]; exact m, u, k a u e⟩, fun _ _ _ _ d _ _ => d⟩
  by_cases h : q = p
  · subst h; rw [MM.set_same] at hq; cases hq; exact ⟨dp, hm⟩
  · rw [MM.set_ne h] at hq
    obtain ⟨h1, h2⟩ := s.mu q mo' hq
    exact ⟨h1, h2.mono Ex.refl fun u e => by rw [upd_ne h]; exact e⟩
theorem Tabs.write (t : Tabs T H) {u : HO} (hu : H p = some u) (h1 : ∀ ps, u ≠ .tbl ps) (h2 : ∀ φ, u ≠ .ext φ) (o : HO) : Tabs T (upd H p o) := fun q hq => by
  obtain ⟨ps, a, b, c⟩ := t q hq
  refine ⟨ps, by rw [upd_ne (fun z => h1 ps (Option.some.inj (hu.symm.trans (by rw [← z]; exact a))))]; exact a, b, fun pos cv hc => ?_⟩
  obtain ⟨c', e1, e2⟩ := c pos cv hc
  exact ⟨c', e1, by rw [upd_ne (fun z => h2 _ (Option.some.inj (hu.symm.trans (by rw [← z]; exact e2))))]; exact e2⟩
/-- a mutable object is written -/
theorem Sat.write (s : Sat K T D M H) (hm : M p = some o) {u : HO} {mo : MO} (hu : MOk K D (upd H p u) p mo) : Fw K T M D H (M.set p mo) D (upd H p u) := by
  obtain ⟨dp, ok⟩ := s.mu p o hm
  obtain ⟨w, hw, n1, n2, _⟩ := ok.some
  have ne : ∀ a, M a = none → a ≠ p := fun a m z => by rw [z, hm] at m; cases m
  refine ⟨Ex.refl, ⟨s.ex.upds dp, fun q mo' hq => ?_, Tabs.write s.tb hw n1 n2 u, s.nt⟩, fun a v e m _ => by rw [upd_ne (ne a m)]; exact e, fun a v e m => ⟨by rw [MM.set_ne (ne a m)]; exact m, v, by rw [upd_ne (ne a m)]; exact e⟩, fun _ _ _ _ d _ _ => d⟩
  by_cases h : q = p
  · subst h; rw [MM.set_same] at hq; cases hq; exact ⟨dp, hu⟩
  · rw [MM.set_ne h] at hq
    obtain ⟨h1, h2⟩ := s.mu q mo' hq
    exact ⟨h1, h2.mono Ex.refl fun u e => by rw [upd_ne h]; exact e⟩
def MO.dat : MO → Dat
  | .ml xs => .lst xs
  | .mi C fs => .ins C fs
  | .md kvs => .dic kvs
/-- a mutable object freezes -/
theorem Sat.freeze (s : Sat K T D M H) (hm : M p = some o) : ∃ D', Fw K T M D H (M.del p) D' H ∧ Rep K D' (.ref p) o.dat := by
  obtain ⟨dp, ok⟩ := s.mu p o hm
  obtain ⟨w, hw, n1, n2, _⟩ := ok.some
  have e : Ex D (upd D p w) := Ex.upd dp
  refine ⟨upd D p w, ⟨e, ⟨fun a u q => ?_, fun q mo' hq => ?_, s.tb, fun a ps z => by
    by_cases h : a = p
    · rw [h, upd_same] at z; exact n1 ps (Option.some.inj z)
    · rw [upd_ne h] at z; exact s.nt a ps z⟩, fun _ _ h _ _ => h, fun a u q m => ⟨by unfold MM.del; split <;> first | rfl | exact m, u, q⟩, fun a u q m d _ _ => by rw [upd_ne (fun z => by rw [z, hm] at m; cases m)]; exact d⟩, ?_⟩
  · by_cases h : a = p
    · subst h; rw [upd_same] at q; cases q; exact hw
    · rw [upd_ne h] at q; exact s.ex a u q
  · unfold MM.del at hq
    by_cases h : q = p
    · rw [if_pos h] at hq; cases hq
    · rw [if_neg h] at hq
      obtain ⟨h1, h2⟩ := s.mu q mo' hq
      exact ⟨by rw [upd_ne h]; exact h1, h2.mono e fun u z => z⟩
  · cases o with
    | ml ds => obtain ⟨xs, h1, h2⟩ := ok; rw [h1] at hw; cases hw; exact .lst upd_same (h2.mono e)
    | mi C ds => obtain ⟨dx, fs, h1, h2⟩ := ok; rw [h1] at hw; cases hw; exact .ins upd_same (h2.mono e)
    | md ks => obtain ⟨xs, h1, h2⟩ := ok; rw [h1] at hw; cases hw; exact .dic upd_same (h2.mono e)
end
/-! slots -/
abbrev Gm := List (Option Dat)
def Sl (K : PySem.W.Frag) (D : Hp) (σ : L2.St) (Γ : Gm) : Prop := σ.length = Γ.length ∧ ∀ (i : Nat) (d : Dat), Γ[i]? = some (some d) → ∃ v, σ[i]? = some (some v) ∧ Rep K D v d
section
variable {K : PySem.W.Frag} {T : TL} {D D' D'' H H' H'' : Hp} {M M' M'' : MM} {σ : L2.St} {Γ : Gm}
theorem Sl.mono (h : Sl K D σ Γ) (e : Ex D D') : Sl K D' σ Γ := ⟨h.1, fun i d q => let ⟨v, a, b⟩ := h.2 i d q; ⟨v, a, b.mono e⟩⟩
theorem Sl.set (h : Sl K D σ Γ) {i : Nat} {v : V} {d : Dat} (r : Rep K D v d) : Sl K D (σ.set i (some v)) (Γ.set i (some d)) := by
  refine ⟨by rw [List.length_set, List.length_set]; exact h.1, fun j d' q => ?_⟩
  by_cases e : i = j
  · subst e
    by_cases l : i < Γ.length
    · rw [List.getElem?_set_self l] at q; cases q
      exact ⟨v, by rw [List.getElem?_set_self (by rw [h.1]; exact l)], r⟩
    · rw [List.getElem?_eq_none (by rw [List.length_set]; omega)] at q; cases q
  · rw [List.getElem?_set_ne e] at q ⊢
    exact h.2 j d' q
theorem Sl.weak (h : Sl K D σ Γ) {σ' : L2.St} {Γ' : Gm} (hl : σ'.length = σ.length) (hg : Γ'.length = Γ.length) (hs : ∀ (i : Nat) d, Γ'[i]? = some (some d) → Γ[i]? = some (some d) ∧ σ'[i]? = σ[i]?) : Sl K D σ' Γ' :=
  ⟨by rw [hl, hg]; exact h.1, fun i d q => by obtain ⟨a, b⟩ := hs i d q; rw [b]; exact h.2 i d a⟩
end
end Da
end
section
set_option autoImplicit false
/-! Expressions over data. -/
namespace Da
open PySem PySem.Spec PyProof.Rows L2 StX LamX
section
variable (K : PySem.W.Frag) (T : TL) (Γ : Gm) (M : MM)
def tD (d : Dat) (M' : MM) : TE := fun σ H Q => ∃ D, Sat K T D M H ∧ Sl K D σ Γ ∧ ∀ v D' H', Fw K T M D H M' D' H' → Rep K D' v d → Q v H'
def tRl (R : Dat → MM → Prop) : TE := fun σ H Q => ∃ D, Sat K T D M H ∧ Sl K D σ Γ ∧ ∀ v d D' M' H', R d M' → Fw K T M D H M' D' H' → Rep K D' v d → Q v H'
def tAs (ds : List Dat) (M' : MM) : TA := fun σ H Q => ∃ D, Sat K T D M H ∧ Sl K D σ Γ ∧ ∀ vs D' H', Fw K T M D H M' D' H' → Reps K D' vs ds → Q vs H'
def tT (b : Bool) (M' : MM) : TT := fun σ H Q => ∃ D, Sat K T D M H ∧ Sl K D σ Γ ∧ ∀ D' H', Fw K T M D H M' D' H' → Q b H'
def tOI (o : Option Int) (M' : MM) : TO := fun σ H Q => ∃ D, Sat K T D M H ∧ Sl K D σ Γ ∧ ∀ D' H', Fw K T M D H M' D' H' → Q o H'
end
abbrev DX (X : Cx) (T : TL) (Γ : Gm) (M : MM) (e : Expr) (d : Dat) (M' : MM) : Prop := PE X e (tD X.K T Γ M d M')
abbrev RX (X : Cx) (T : TL) (Γ : Gm) (M : MM) (e : Expr) (R : Dat → MM → Prop) : Prop := PE X e (tRl X.K T Γ M R)
abbrev AX (X : Cx) (T : TL) (Γ : Gm) (M : MM) (es : List Expr) (ds : List Dat) (M' : MM) : Prop := PA X es (tAs X.K T Γ M ds M')
abbrev TX (X : Cx) (T : TL) (Γ : Gm) (M : MM) (e : Expr) (b : Bool) (M' : MM) : Prop := PT X e (tT X.K T Γ M b M')
abbrev WX (X : Cx) (T : TL) (Γ : Gm) (M : MM) (e : Expr) (b : Bool) (M' : MM) : Prop := PW X e (tT X.K T Γ M b M')
abbrev OX (X : Cx) (T : TL) (Γ : Gm) (M : MM) (e : Option Expr) (o : Option Int) (M' : MM) : Prop := PO X e (tOI X.K T Γ M o M')
section
variable {X : Cx} {e : Expr} {es : List Expr} {t t' : TE}
theorem pe_w (h : PE X e t) (w : ∀ σ H Q, t' σ H Q → t σ H Q) : PE X e t' := ⟨fun pins s σ H Q I q => h.run pins s σ H Q I (w _ _ _ q)⟩
theorem pe_wI (h : PE X e t) (w : ∀ pins s σ H Q, Inv X pins σ H s → t' σ H Q → t σ H Q) : PE X e t' := ⟨fun pins s σ H Q I q => h.run pins s σ H Q I (w _ _ _ _ _ I q)⟩
theorem pt_w {t t' : TT} (h : PT X e t) (w : ∀ σ H Q, t' σ H Q → t σ H Q) : PT X e t' := ⟨fun pins s σ H Q I q => h.run pins s σ H Q I (w _ _ _ q)⟩
theorem pw_w {t t' : TT} (h : PW X e t) (w : ∀ σ H Q, t' σ H Q → t σ H Q) : PW X e t' := ⟨fun wh pins s σ H Q I q => h.run wh pins s σ H Q I (w _ _ _ q)⟩
theorem pa_w {t t' : TA} (h : PA X es t) (w : ∀ σ H Q, t' σ H Q → t σ H Q) : PA X es t' := ⟨fun pos pins s σ H Q I q => h.run pos pins s σ H Q I (w _ _ _ q)⟩
theorem po_w {o : Option Expr} {t t' : TO} (h : PO X o t) (w : ∀ σ H Q, t' σ H Q → t σ H Q) : PO X o t' := ⟨fun pins s σ H Q I q => h.run pins s σ H Q I (w _ _ _ q)⟩
theorem pss_w {ss : List Stmt} {t t' : TS} (h : PSs X ss t) (w : ∀ D σ H, t' D σ H → t D σ H) : PSs X ss t' := ⟨fun pins s σ H Q I q => h.run pins s σ H Q I (w _ _ _ q)⟩
end
theorem ifT {p q : Prop} (h : p) : if true = true then p else q := by rw [if_pos rfl]; exact h
theorem ifF {p q : Prop} (h : q) : if false = true then p else q := by rw [if_neg (by decide)]; exact h
theorem Rep.inv_at {K : PySem.W.Frag} {D : Hp} {v u : V} (h : Rep K D v (.at u)) : v = u := by cases h; rfl
section
variable {X : Cx} {T : TL} {Γ : Gm} {M M1 M2 M3 M4 : MM} {e a b c : Expr} {es : List Expr} {d d1 d2 d3 : Dat} {ds ds1 ds2 : List Dat} {pos p1 p2 apos : Pos} {i j : Int}
theorem DX.toR {R : Dat → MM → Prop} (h : DX X T Γ M e d M1) (r : R d M1) : RX X T Γ M e R := pe_w h fun σ H Q ⟨D, s, l, k⟩ => ⟨D, s, l, fun v D' H' f rv => k v d D' M1 H' r f rv⟩
/-! atoms -/
theorem dx_var (i : Nat) {x : Str} (hN : X.N[i]? = some x) (hg : Γ[i]? = some (some d)) (hv : Vis X.env.scope x) (hd : (x == ("__debug__" : Str)) = false := by decide) (hcd : (x == ("__classdict__" : Str)) = false := by decide) : DX X T Γ M (.Name x pos) d M :=
  pe_w (pe_var hN hv hd hcd) fun σ H Q ⟨D, s, l, k⟩ => by
    obtain ⟨v, hs, r⟩ := l.2 i d hg
    exact ⟨v, hs, k v D H (Fw.refl s) r⟩
theorem dx_c {v : V} (h : PE X e (tC v)) : DX X T Γ M e (.at v) M := pe_w h fun σ H Q ⟨D, s, l, k⟩ => k v D H (Fw.refl s) .at
theorem dx_int {i j pos} : DX X T Γ M (.Constant (.int i) j pos) (.int i) M := dx_c pe_int
theorem dx_bl {i j pos} : DX X T Γ M (.Constant (.bool i) j pos) (.bl i) M := dx_c pe_bl
theorem dx_non {j pos} : DX X T Γ M (.Constant .none j pos) .non M := dx_c pe_non
theorem dx_str {i j pos} : DX X T Γ M (.Constant (.str i) j pos) (.str i) M := dx_c pe_str
theorem dx_glob {x : Str} {v : V} {u : Value} (hm : X.mg x = some u) (r : RelV v u) (hg : Gl X x) (hd : (x == ("__debug__" : Str)) = false := by decide) : DX X T Γ M (.Name x pos) (.at v) M := dx_c (pe_glob hg hm r hd)
theorem dx_gint {x : Str} (hm : ∃ t, X.mg x = some (.int i t)) (hg : Gl X x) (hd : (x == ("__debug__" : Str)) = false := by decide) : DX X T Γ M (.Name x pos) (.int i) M := by
  obtain ⟨t, h⟩ := hm
  exact dx_c (pe_glob hg h ⟨t, rfl⟩ hd)
theorem dx_gref {x : Str} {C : Addr} (hm : X.mg x = some (.ref C)) (hg : Gl X x) (hd : (x == ("__debug__" : Str)) = false := by decide) : DX X T Γ M (.Name x pos) (.ptr C) M := dx_c (pe_glob hg hm rfl hd)
theorem dx_bty {x : Str} {n : String} (hm : X.mg x = none) (hv : bootBuiltins x = some (.type n)) (hg : Gl X x) (hn : x ≠ "__name__" := by decide) (hd : (x == ("__debug__" : Str)) = false := by decide) : DX X T Γ M (.Name x pos) (.at (.ty n)) M := dx_c (pe_bltn hg hm hv rfl hn hd)
/-! operators -/
theorem dx_bin {op : Operator} {r : R2} (ho : OpR X (binaryOp op) r) (ha : DX X T Γ M a d1 M1) (hb : DX X T Γ M1 b d2 M2)
    (hr : ∀ D H x y Q, Sat X.K T D M2 H → Rep X.K D x d1 → Rep X.K D y d2 → (∀ v D' H', Fw X.K T M2 D H M3 D' H' → Rep X.K D' v d → Q v H') → r x y H Q) : DX X T Γ M (.BinOp a op b pos) d M3 :=
  pe_w (pe_op ho ha hb) fun σ H Q ⟨D, s, l, k⟩ => ⟨D, s, l, fun x D1 H1 f1 r1 => ⟨D1, f1.sat, l.mono f1.ex, fun y D2 H2 f2 r2 => hr D2 H2 x y Q f2.sat (r1.mono f2.ex) r2 fun v D' H' f3 rv => k v D' H' ((f1.trans f2).trans f3) rv⟩⟩
theorem dx_binI {op : Operator} {C : Int → Int → Prop} {g : Int → Int → V} (ho : OpR X (binaryOp op) (rI C g)) (ha : DX X T Γ M a (.int i) M1) (hb : DX X T Γ M1 b (.int j) M2) (hc : C i j) : DX X T Γ M (.BinOp a op b pos) (.at (g i j)) M2 :=
  dx_bin ho ha hb fun D H x y Q s r1 r2 k => ⟨i, j, r1.inv_at, r2.inv_at, hc, k _ D H (Fw.refl s) .at⟩
theorem dx_binI0 {op : Operator} {g : Int → Int → V} (ho : OpR X (binaryOp op) (rI0 g)) (ha : DX X T Γ M a (.int i) M1) (hb : DX X T Γ M1 b (.int j) M2) : DX X T Γ M (.BinOp a op b pos) (.at (g i j)) M2 :=
  dx_bin ho ha hb fun D H x y Q s r1 r2 k => ⟨i, j, r1.inv_at, r2.inv_at, k _ D H (Fw.refl s) .at⟩
theorem dx_add (ha : DX X T Γ M a (.int i) M1) (hb : DX X T Γ M1 b (.int j) M2) : DX X T Γ M (.BinOp a .Add b pos) (.int (i + j)) M2 := dx_binI0 op_add ha hb
theorem dx_sub (ha : DX X T Γ M a (.int i) M1) (hb : DX X T Γ M1 b (.int j) M2) : DX X T Γ M (.BinOp a .Sub b pos) (.int (i - j)) M2 := dx_binI0 op_sub ha hb
theorem dx_mul (ha : DX X T Γ M a (.int i) M1) (hb : DX X T Γ M1 b (.int j) M2) (hc : CMul i j) : DX X T Γ M (.BinOp a .Mult b pos) (.int (i * j)) M2 := dx_binI op_mul ha hb hc
theorem dx_fdiv (ha : DX X T Γ M a (.int i) M1) (hb : DX X T Γ M1 b (.int j) M2) (hc : CDiv i j) : DX X T Γ M (.BinOp a .FloorDiv b pos) (.int (i / j)) M2 := dx_binI op_fdiv ha hb hc
theorem dx_mod (ha : DX X T Γ M a (.int i) M1) (hb : DX X T Γ M1 b (.int j) M2) (hc : 0 < j) : DX X T Γ M (.BinOp a .Mod b pos) (.int (i % j)) M2 := dx_binI op_mod ha hb hc
theorem dx_pow (ha : DX X T Γ M a (.int i) M1) (hb : DX X T Γ M1 b (.int j) M2) (hc : CPow i j) : DX X T Γ M (.BinOp a .Pow b pos) (.int (i ^ j.toNat)) M2 := dx_binI op_pow ha hb hc
theorem dx_neg (ha : DX X T Γ M a (.int i) M1) : DX X T Γ M (.UnaryOp .USub a pos) (.int (-i)) M1 :=
  pe_w (pe_un un_neg ha) fun σ H Q ⟨D, s, l, k⟩ => ⟨D, s, l, fun x D1 H1 f1 r1 => ⟨i, r1.inv_at, k _ D1 H1 f1 .at⟩⟩
theorem dx_cat (ha : DX X T Γ M a (.lst ds1) M1) (hb : DX X T Γ M1 b (.lst ds2) M2) (hz : ds1.length + ds2.length ≤ 1000000) : DX X T Γ M (.BinOp a .Add b pos) (.lst (ds1 ++ ds2)) M2 :=
  dx_bin op_cat ha hb fun D H x y Q s r1 r2 k => by
    cases r1 with | @lst a1 xs _ h1 q1 =>
    cases r2 with | @lst a2 ys _ h2 q2 =>
    refine ⟨a1, a2, xs, ys, rfl, rfl, s.ex _ _ h1, s.ex _ _ h2, by rw [q1.length, q2.length, sizeLine_eq]; omega, fun p hp => ?_⟩
    have f := s.new hp (.lst (xs ++ ys))
    exact k _ _ _ f (.lst upd_same ((q1.append q2).mono f.ex))
theorem dx_repT {n : Nat} (ha : DX X T Γ M a (.tup ds1) M1) (hb : DX X T Γ M1 b (.int n) M2) (h0 : ds1 ≠ []) (hn : 2 ≤ n) (hn' : n ≤ 1000) (hl : ds1.length ≤ 1000) : DX X T Γ M (.BinOp a .Mult b pos) (.tup (List.replicate n ds1).flatten) M2 :=
  dx_bin op_repT ha hb fun D H x y Q s r1 r2 k => by
    cases r1 with | @tup a1 xs _ h1 q1 =>
    refine ⟨a1, n, xs, rfl, r2.inv_at, SqT.of (s.ex _ _ h1), fun z => h0 (List.length_eq_zero_iff.mp (by rw [← q1.length, z]; rfl)), by omega, by omega, by rw [q1.length]; exact hl, fun p hp => ?_⟩
    have f := s.new hp (.tup (List.replicate (n : Int).toNat xs).flatten)
    refine k _ _ _ f (.tup upd_same ?_)
    have : ∀ m : Nat, Reps X.K D (List.replicate m xs).flatten (List.replicate m ds1).flatten := fun m => by
      induction m with
      | zero => exact .nil
      | succ m ih => rw [List.replicate_succ, List.replicate_succ, List.flatten_cons, List.flatten_cons]; exact q1.append ih
    exact (this n).mono f.ex
/-! comparisons -/
theorem dx_cmp {op : CmpOp} {r : R2} {bb : Bool} (ho : OpR X (compareOp op) r) (ha : DX X T Γ M a d1 M1) (hb : DX X T Γ M1 b d2 M2) (hm : behindInMarks op b = false)
    (hr : ∀ D H x y Q, Sat X.K T D M2 H → Rep X.K D x d1 → Rep X.K D y d2 → Q (.bl bb) H → r x y H Q) : DX X T Γ M (.Compare a [op] [b] pos) (.bl bb) M2 :=
  pe_w (pe_cmpR ho ha hb hm) fun σ H Q ⟨D, s, l, k⟩ => ⟨D, s, l, fun x D1 H1 f1 r1 => ⟨D1, f1.sat, l.mono f1.ex, fun y D2 H2 f2 r2 => hr D2 H2 x y Q f2.sat (r1.mono f2.ex) r2 (k _ D2 H2 (f1.trans f2) .at)⟩⟩
theorem tx_cmp {op : CmpOp} {r : R2} {bb : Bool} (ho : OpR X (compareOp op) r) (ha : DX X T Γ M a d1 M1) (hb : DX X T Γ M1 b d2 M2) (hm : behindInMarks op b = false)
    (hr : ∀ D H x y Q, Sat X.K T D M2 H → Rep X.K D x d1 → Rep X.K D y d2 → Q (.bl bb) H → r x y H Q) : TX X T Γ M (.Compare a [op] [b] pos) bb M2 :=
  pt_w (pt_cmpR ho ha hb hm) fun σ H Q ⟨D, s, l, k⟩ => ⟨D, s, l, fun x D1 H1 f1 r1 => ⟨D1, f1.sat, l.mono f1.ex, fun y D2 H2 f2 r2 => hr D2 H2 x y _ f2.sat (r1.mono f2.ex) r2 ⟨bb, rfl, k D2 H2 (f1.trans f2)⟩⟩⟩
theorem cmpI {op : CmpOp} {g : Int → Int → Bool} (K : PySem.W.Frag) (D H : Hp) (x y : V) (Q : VK) (r1 : Rep K D x (.int i)) (r2 : Rep K D y (.int j)) (k : Q (.bl (g i j)) H) : rI0 (fun i j => .bl (g i j)) x y H Q := ⟨i, j, r1.inv_at, r2.inv_at, k⟩
theorem cmpE (K : PySem.W.Frag) (D H : Hp) (x y : V) (Q : VK) (r1 : Rep K D x (.int i)) (r2 : Rep K D y (.int j)) (k : Q (.bl (decide (i = j))) H) : rEq x y H Q := by
  cases r1; cases r2
  refine ⟨rfl, ?_⟩
  rw [show decide (V.int i = V.int j) = decide (i = j) from by by_cases h : i = j <;> simp [h]]
  exact k
theorem cmpN (K : PySem.W.Frag) (D H : Hp) (x y : V) (Q : VK) (r1 : Rep K D x (.int i)) (r2 : Rep K D y (.int j)) (k : Q (.bl (!decide (i = j))) H) : rNe x y H Q := by
  cases r1; cases r2
  refine ⟨rfl, ?_⟩
  rw [show decide (V.int i = V.int j) = decide (i = j) from by by_cases h : i = j <;> simp [h]]
  exact k
theorem dx_lt (ha : DX X T Γ M a (.int i) M1) (hb : DX X T Γ M1 b (.int j) M2) : DX X T Γ M (.Compare a [.Lt] [b] pos) (.bl (decide (i < j))) M2 := dx_cmp op_lt ha hb (nomark _) fun D H x y Q s r1 r2 k => cmpI (op := .Lt) (g := fun i j => decide (i < j)) _ _ _ _ _ _ r1 r2 k
theorem dx_le (ha : DX X T Γ M a (.int i) M1) (hb : DX X T Γ M1 b (.int j) M2) : DX X T Γ M (.Compare a [.LtE] [b] pos) (.bl (decide (i ≤ j))) M2 := dx_cmp op_le ha hb (nomark _) fun D H x y Q s r1 r2 k => cmpI (op := .Lt) (g := fun i j => decide (i ≤ j)) _ _ _ _ _ _ r1 r2 k
theorem dx_gt (ha : DX X T Γ M a (.int i) M1) (hb : DX X T Γ M1 b (.int j) M2) : DX X T Γ M (.Compare a [.Gt] [b] pos) (.bl (decide (j < i))) M2 := dx_cmp op_gt ha hb (nomark _) fun D H x y Q s r1 r2 k => cmpI (op := .Lt) (g := fun i j => decide (j < i)) _ _ _ _ _ _ r1 r2 k
theorem dx_ge (ha : DX X T Γ M a (.int i) M1) (hb : DX X T Γ M1 b (.int j) M2) : DX X T Γ M (.Compare a [.GtE] [b] pos) (.bl (decide (j ≤ i))) M2 := dx_cmp op_ge ha hb (nomark _) fun D H x y Q s r1 r2 k => cmpI (op := .Lt) (g := fun i j => decide (j ≤ i)) _ _ _ _ _ _ r1 r2 k
theorem dx_eq (ha : DX X T Γ M a (.int i) M1) (hb : DX X T Γ M1 b (.int j) M2) : DX X T Γ M (.Compare a [.Eq] [b] pos) (.bl (decide (i = j))) M2 := dx_cmp op_eq ha hb (nomark _) fun D H x y Q s r1 r2 k => cmpE _ _ _ _ _ _ r1 r2 k
theorem dx_ne (ha : DX X T Γ M a (.int i) M1) (hb : DX X T Γ M1 b (.int j) M2) : DX X T Γ M (.Compare a [.NotEq] [b] pos) (.bl (!decide (i = j))) M2 := dx_cmp op_ne ha hb (nomark _) fun D H x y Q s r1 r2 k => cmpN _ _ _ _ _ _ r1 r2 k
theorem tx_lt (ha : DX X T Γ M a (.int i) M1) (hb : DX X T Γ M1 b (.int j) M2) : TX X T Γ M (.Compare a [.Lt] [b] pos) (decide (i < j)) M2 := tx_cmp op_lt ha hb (nomark _) fun D H x y Q s r1 r2 k => cmpI (op := .Lt) (g := fun i j => decide (i < j)) _ _ _ _ _ _ r1 r2 k
theorem tx_le (ha : DX X T Γ M a (.int i) M1) (hb : DX X T Γ M1 b (.int j) M2) : TX X T Γ M (.Compare a [.LtE] [b] pos) (decide (i ≤ j)) M2 := tx_cmp op_le ha hb (nomark _) fun D H x y Q s r1 r2 k => cmpI (op := .Lt) (g := fun i j => decide (i ≤ j)) _ _ _ _ _ _ r1 r2 k
theorem tx_gt (ha : DX X T Γ M a (.int i) M1) (hb : DX X T Γ M1 b (.int j) M2) : TX X T Γ M (.Compare a [.Gt] [b] pos) (decide (j < i)) M2 := tx_cmp op_gt ha hb (nomark _) fun D H x y Q s r1 r2 k => cmpI (op := .Lt) (g := fun i j => decide (j < i)) _ _ _ _ _ _ r1 r2 k
theorem tx_ge (ha : DX X T Γ M a (.int i) M1) (hb : DX X T Γ M1 b (.int j) M2) : TX X T Γ M (.Compare a [.GtE] [b] pos) (decide (j ≤ i)) M2 := tx_cmp op_ge ha hb (nomark _) fun D H x y Q s r1 r2 k => cmpI (op := .Lt) (g := fun i j => decide (j ≤ i)) _ _ _ _ _ _ r1 r2 k
theorem tx_eq (ha : DX X T Γ M a (.int i) M1) (hb : DX X T Γ M1 b (.int j) M2) : TX X T Γ M (.Compare a [.Eq] [b] pos) (decide (i = j)) M2 := tx_cmp op_eq ha hb (nomark _) fun D H x y Q s r1 r2 k => cmpE _ _ _ _ _ _ r1 r2 k
theorem tx_ne (ha : DX X T Γ M a (.int i) M1) (hb : DX X T Γ M1 b (.int j) M2) : TX X T Γ M (.Compare a [.NotEq] [b] pos) (!decide (i = j)) M2 := tx_cmp op_ne ha hb (nomark _) fun D H x y Q s r1 r2 k => cmpN _ _ _ _ _ _ r1 r2 k
def Dat.isNon : Dat → Bool
  | .at .non => true
  | _ => false
theorem rep_isNon {K : PySem.W.Frag} {D : Hp} {v : V} (h : Rep K D v d) : decide (v = .non) = d.isNon := by
  cases d with
  | «at» u => cases h; cases v <;> rfl
  | _ => cases h <;> rfl
theorem dx_isN {j pos'} (ha : DX X T Γ M a d1 M1) : DX X T Γ M (.Compare a [.Is] [.Constant .none j pos'] pos) (.bl d1.isNon) M1 := dx_cmp op_isN ha dx_non (nomark _) fun D H x y Q s r1 r2 k => ⟨r2.inv_at, by rw [rep_isNon r1]; exact k⟩
theorem dx_notN {j pos'} (ha : DX X T Γ M a d1 M1) : DX X T Γ M (.Compare a [.IsNot] [.Constant .none j pos'] pos) (.bl (!d1.isNon)) M1 := dx_cmp op_notN ha dx_non (nomark _) fun D H x y Q s r1 r2 k => ⟨r2.inv_at, by rw [rep_isNon r1]; exact k⟩
theorem tx_isN {j pos'} (ha : DX X T Γ M a d1 M1) : TX X T Γ M (.Compare a [.Is] [.Constant .none j pos'] pos) d1.isNon M1 := tx_cmp op_isN ha dx_non (nomark _) fun D H x y Q s r1 r2 k => ⟨r2.inv_at, by rw [rep_isNon r1]; exact k⟩
theorem tx_notN {j pos'} (ha : DX X T Γ M a d1 M1) : TX X T Γ M (.Compare a [.IsNot] [.Constant .none j pos'] pos) (!d1.isNon) M1 := tx_cmp op_notN ha dx_non (nomark _) fun D H x y Q s r1 r2 k => ⟨r2.inv_at, by rw [rep_isNon r1]; exact k⟩
/-! tests and truth -/
theorem tx_val {bb : Bool} (h : DX X T Γ M e (.bl bb) M1) (he : ∀ whole, isTrue e X.env whole = (do let v ← whole; standAt e.pos; holding [v] (truthy v)) := by intro _; rfl) : TX X T Γ M e bb M1 :=
  pt_w (pt_val h he) fun σ H Q ⟨D, s, l, k⟩ => ⟨D, s, l, fun x D1 H1 f1 r1 => ⟨bb, r1.inv_at, k D1 H1 f1⟩⟩
theorem tx_not {bb : Bool} (h : TX X T Γ M a bb M1) : TX X T Γ M (.UnaryOp .Not a pos) (!bb) M1 :=
  pt_w (pt_not h) fun σ H Q ⟨D, s, l, k⟩ => ⟨D, s, l, fun D1 H1 f1 => k D1 H1 f1⟩
theorem dx_not {bb : Bool} (h : DX X T Γ M a (.bl bb) M1) : DX X T Γ M (.UnaryOp .Not a pos) (.bl (!bb)) M1 :=
  pe_w (pe_not h) fun σ H Q ⟨D, s, l, k⟩ => ⟨D, s, l, fun x D1 H1 f1 r1 => ⟨bb, r1.inv_at, k _ D1 H1 f1 .at⟩⟩
theorem wx_and1 {bb : Bool} (h : TX X T Γ M a bb M1) : WX X T Γ M (.BoolOp .And [a] pos) bb M1 := pw_and1 h
theorem wx_or1 {bb : Bool} (h : TX X T Γ M a bb M1) : WX X T Γ M (.BoolOp .Or [a] pos) bb M1 := pw_or1 h
/-- the second is asked only where the first holds -/
theorem wx_and {b1 b2 : Bool} (h : TX X T Γ M a b1 M1) (h2 : b1 = true → WX X T Γ M1 (.BoolOp .And (b :: es) pos) b2 M2) (hM : b1 = false → M1 = M2) : WX X T Γ M (.BoolOp .And (a :: b :: es) pos) (b1 && b2) M2 := by
  cases b1 with
  | true => exact pw_w (pw_and h (h2 rfl)) fun σ H Q ⟨D, s, l, k⟩ => ⟨D, s, l, fun D1 H1 f1 => ifT ⟨D1, f1.sat, l.mono f1.ex, fun D2 H2 f2 => k D2 H2 (f1.trans f2)⟩⟩
  | false =>
    cases hM rfl
    exact pw_w (pw_and (tB' := fun _ _ _ => False) h ⟨fun _ _ _ _ _ _ _ z => z.elim⟩) fun σ H Q ⟨D, s, l, k⟩ => ⟨D, s, l, fun D1 H1 f1 => ifF (k D1 H1 f1)⟩
theorem wx_or {b1 b2 : Bool} (h : TX X T Γ M a b1 M1) (h2 : b1 = false → WX X T Γ M1 (.BoolOp .Or (b :: es) pos) b2 M2) (hM : b1 = true → M1 = M2) : WX X T Γ M (.BoolOp .Or (a :: b :: es) pos) (b1 || b2) M2 := by
  cases b1 with
  | false => exact pw_w (pw_or h (h2 rfl)) fun σ H Q ⟨D, s, l, k⟩ => ⟨D, s, l, fun D1 H1 f1 => ifF ⟨D1, f1.sat, l.mono f1.ex, fun D2 H2 f2 => k D2 H2 (f1.trans f2)⟩⟩
  | true =>
    cases hM rfl
    exact pw_w (pw_or (tB' := fun _ _ _ => False) h ⟨fun _ _ _ _ _ _ _ z => z.elim⟩) fun σ H Q ⟨D, s, l, k⟩ => ⟨D, s, l, fun D1 H1 f1 => ifT (k D1 H1 f1)⟩
theorem dx_one {op} (h : DX X T Γ M a d M1) : DX X T Γ M (.BoolOp op [a] pos) d M1 := pe_one h
theorem dx_and {b1 : Bool} (h : DX X T Γ M a (.bl b1) M1) (h2 : b1 = true → DX X T Γ M1 (.BoolOp .And (b :: es) pos) d M2) (hF : b1 = false → M1 = M2 ∧ d = .bl false) : DX X T Γ M (.BoolOp .And (a :: b :: es) pos) d M2 := by
  cases b1 with
  | true => exact pe_w (pe_and h (h2 rfl)) fun σ H Q ⟨D, s, l, k⟩ => ⟨D, s, l, fun x D1 H1 f1 r1 => ⟨true, r1.inv_at, ifT ⟨D1, f1.sat, l.mono f1.ex, fun v D2 H2 f2 r2 => k v D2 H2 (f1.trans f2) r2⟩⟩⟩
  | false =>
    obtain ⟨e1, e2⟩ := hF rfl
    subst e1 e2
    exact pe_w (pe_and (tb := fun _ _ _ => False) h ⟨fun _ _ _ _ _ _ z => z.elim⟩) fun σ H Q ⟨D, s, l, k⟩ => ⟨D, s, l, fun x D1 H1 f1 r1 => ⟨false, r1.inv_at, ifF (k _ D1 H1 f1 .at)⟩⟩
theorem dx_or {b1 : Bool} (h : DX X T Γ M a (.bl b1) M1) (h2 : b1 = false → DX X T Γ M1 (.BoolOp .Or (b :: es) pos) d M2) (hF : b1 = true → M1 = M2 ∧ d = .bl true) : DX X T Γ M (.BoolOp .Or (a :: b :: es) pos) d M2 := by
  cases b1 with
  | false => exact pe_w (pe_or h (h2 rfl)) fun σ H Q ⟨D, s, l, k⟩ => ⟨D, s, l, fun x D1 H1 f1 r1 => ⟨false, r1.inv_at, ifF ⟨D1, f1.sat, l.mono f1.ex, fun v D2 H2 f2 r2 => k v D2 H2 (f1.trans f2) r2⟩⟩⟩
  | true =>
    obtain ⟨e1, e2⟩ := hF rfl
    subst e1 e2
    exact pe_w (pe_or (tb := fun _ _ _ => False) h ⟨fun _ _ _ _ _ _ z => z.elim⟩) fun σ H Q ⟨D, s, l, k⟩ => ⟨D, s, l, fun x D1 H1 f1 r1 => ⟨true, r1.inv_at, ifT (k _ D1 H1 f1 .at)⟩⟩
theorem dx_if {bb : Bool} (h : TX X T Γ M c bb M1) (ht : bb = true → DX X T Γ M1 a d M2) (hf : bb = false → DX X T Γ M1 b d M2) : DX X T Γ M (.IfExp c a b pos) d M2 := by
  cases bb with
  | true => exact pe_w (pe_ifExp (tb := fun _ _ _ => False) h (ht rfl) ⟨fun _ _ _ _ _ _ z => z.elim⟩) fun σ H Q ⟨D, s, l, k⟩ => ⟨D, s, l, fun D1 H1 f1 => ifT ⟨D1, f1.sat, l.mono f1.ex, fun v D2 H2 f2 r2 => k v D2 H2 (f1.trans f2) r2⟩⟩
  | false => exact pe_w (pe_ifExp (ta := fun _ _ _ => False) h ⟨fun _ _ _ _ _ _ z => z.elim⟩ (hf rfl)) fun σ H Q ⟨D, s, l, k⟩ => ⟨D, s, l, fun D1 H1 f1 => ifF ⟨D1, f1.sat, l.mono f1.ex, fun v D2 H2 f2 r2 => k v D2 H2 (f1.trans f2) r2⟩⟩
/-! arguments, displays -/
theorem ax_nil : AX X T Γ M [] [] M := pa_w pa_nil fun σ H Q ⟨D, s, l, k⟩ => k [] D H (Fw.refl s) .nil
theorem ax_cons (ha : DX X T Γ M e d M1) (hr : AX X T Γ M1 es ds M2) (hs : starEach (e :: es) X.env = (false, eval e X.env) :: starEach es X.env := by rfl) : AX X T Γ M (e :: es) (d :: ds) M2 :=
  pa_w (pa_cons ha hr hs) fun σ H Q ⟨D, s, l, k⟩ => ⟨D, s, l, fun v D1 H1 f1 r1 => ⟨D1, f1.sat, l.mono f1.ex, fun vs D2 H2 f2 r2 => k _ D2 H2 (f1.trans f2) (.cons (r1.mono f2.ex) r2)⟩⟩
def Dat.seq : Dat → Option (List Dat)
  | .lst xs => some xs
  | .tup xs => some xs
  | _ => none
theorem rep_seq {K : PySem.W.Frag} {D H : Hp} {v : V} (h : Rep K D v d) (hs : d.seq = some ds) (e : Ex D H) : ∃ p xs, v = .ref p ∧ (SqL K H p xs ∨ SqT K H p xs) ∧ Reps K D xs ds := by
  cases h with
  | lst h1 q => cases hs; exact ⟨_, _, rfl, .inl (SqL.of (e _ _ h1)), q⟩
  | tup h1 q => cases hs; exact ⟨_, _, rfl, .inr (SqT.of (e _ _ h1)), q⟩
  | _ => cases hs
theorem ax_star (ha : DX X T Γ M e d M1) (hq : d.seq = some ds1) (hr : AX X T Γ M1 es ds M2) (hs : starEach (.Starred e p1 :: es) X.env = (true, eval e X.env) :: starEach es X.env := by rfl) : AX X T Γ M (.Starred e p1 :: es) (ds1 ++ ds) M2 :=
  pa_w (pa_star ha hr hs) fun σ H Q ⟨D, s, l, k⟩ => ⟨D, s, l, fun v D1 H1 f1 r1 => by
    obtain ⟨p, xs, ev, sq, rs⟩ := rep_seq r1 hq f1.sat.ex
    exact ⟨p, xs, ev, sq.symm, D1, f1.sat, l.mono f1.ex, fun vs D2 H2 f2 r2 => k _ D2 H2 (f1.trans f2) ((rs.mono f2.ex).append r2)⟩⟩
theorem dx_tup {x1} (h : AX X T Γ M es ds M1) (hz : ds.length ≤ 1000000 := by decide) : DX X T Γ M (.Tuple es x1 pos) (.tup ds) M1 :=
  pe_w (pe_tup h) fun σ H Q ⟨D, s, l, k⟩ => ⟨D, s, l, fun vs D1 H1 f1 r1 => ⟨by rw [r1.length, sizeLine_eq]; omega, fun p hp => by
    have f := f1.sat.new hp (.tup vs)
    exact k _ _ _ (f1.trans f) (.tup upd_same (r1.mono f.ex))⟩⟩
theorem dx_lst (h : AX X T Γ M es ds M1) (hz : ds.length ≤ 1000000 := by decide) : DX X T Γ M (.List es pos) (.lst ds) M1 :=
  pe_w (pe_lst h) fun σ H Q ⟨D, s, l, k⟩ => ⟨D, s, l, fun vs D1 H1 f1 r1 => ⟨by rw [r1.length, sizeLine_eq]; omega, fun p hp => by
    have f := f1.sat.new hp (.lst vs)
    exact k _ _ _ (f1.trans f) (.lst upd_same (r1.mono f.ex))⟩⟩
/-- a list that is to change -/
theorem rx_lst (h : AX X T Γ M es ds M1) (hz : ds.length ≤ 1000000 := by decide) : RX X T Γ M (.List es pos) (fun d M' => ∃ p, M1 p = none ∧ d = .ptr p ∧ M' = M1.set p (.ml ds)) :=
  pe_w (pe_lst h) fun σ H Q ⟨D, s, l, k⟩ => ⟨D, s, l, fun vs D1 H1 f1 r1 => ⟨by rw [r1.length, sizeLine_eq]; omega, fun p hp => by
    have f := f1.sat.newM (o := .lst vs) (mo := .ml ds) hp ⟨vs, upd_same, r1⟩
    exact k _ _ _ _ _ ⟨p, f1.sat.mfree hp, rfl, rfl⟩ (f1.trans f) .at⟩⟩
end
end Da
end
section
set_option autoImplicit false
/-! Expressions over data: items, slices, attributes, built-in functions. -/
namespace HT
open PySem PySem.Spec PyProof.Rows L2
section
variable {prog : Program} {w : World} {A : Around} {E : Value → Shared → Prop} {s : Shared}
/-- t[lo:hi], the whole of it: t itself -/
theorem getItem_tuple_whole {t sl : Addr} {items : Array Value} {vl vu : Value} {lo hi : Option Int} {Q : Value → Shared → Prop} (ht : IsTup s.heap t items) (hs : s.heap.IsSliceOf sl vl vu .none) (pl : IsPart vl lo) (pu : IsPart vu hi)
    (h1 : sIx items.size 0 lo = 0) (h2 : sIx items.size items.size hi = items.size) (h : Q (.ref t) s) (hsz : items.size ≤ sizeLine) : wpAny (model prog w) A (getItem (.ref t) (.ref sl)) Q E s := by
  obtain ⟨os, hos, hcs, hds⟩ := id hs
  have hTs : s.TypeIs (.ref sl) "slice" := ⟨os, hos, hcs⟩
  unfold getItem
  try with_reducible refine wpAny_holding ?_
  first | refine wpAny_bind (wpAny_pure ?_) | skip
  refine wpAny_bind (wpAny_sequenceKey ht.typeIs (by decide) ?_)
  refine wpAny_bind (wpAny_callSpecial?_slot (name := Str.ofString "__getitem__") ht.typeIs PyProof.Rows.slot_tuple_getitem
    (wpAny_call_entry PyProof.Rows.slot_tuple_getitem ht.typeIs entry_tuple_getitem ?_ (args_tuple_getitem _ _)))
  show wpAny _ _ (Builtin.Tuple.tupleItemsOf (.ref t) >>= _) _ _ s
  refine wpAny_bind (tupleItemsOf_ ht ?_)
  refine wpAny_bind (wpAny_typeOf hTs ?_)
  rw [if_pos (by decide)]
  refine wpAny_bind (sliceApplied_gen hs pl pu ?_)
  show wpAny _ _ (if (((sIx items.size 0 lo : Nat) : Int) == 0 && (1 : Int) == 1 && (sIx items.size items.size hi - sIx items.size 0 lo) == items.size) = true then _ else _) _ _ s
  rw [if_pos (by rw [h1, h2]; simp)]
  refine wpAny_bind ?_
  unfold Builtin.Tuple.tupleIsExact
  refine wpAny_bind (wpAny_typeOf ht.typeIs (wpAny_pure ?_))
  rw [if_pos (by decide)]
  exact wpAny_bind (wpAny_rule (wpAny_pure ⟨_, rfl, wpAny_pure h⟩))
end
end HT
namespace Da
open PySem PySem.Spec PyProof.Rows L2 StX LamX
section
variable {X : Cx}
/-- t[lo:hi], whole or not -/
def rSlTa (K : PySem.W.Frag) : V → Option Int → Option Int → Hp → VK → Prop := fun x lo hi H Q => ∃ a xs, x = .ref a ∧ SqT K H a xs ∧
  ((cutV xs lo hi = xs → Q (.ref a) H)) ∧ ∀ p, H p = none → Q (.ref p) (upd H p (.tup (cutV xs lo hi)))
theorem sl_tupa : SlR X (rSlTa X.K) := by
  intro pins s σ H x v vl vu lo hi sl Q I rx hs pl pu h
  obtain ⟨a, xs, e, hx, q1, q2⟩ := h
  by_cases hw : HT.sIx xs.length 0 lo = 0 ∧ HT.sIx xs.length xs.length hi = xs.length
  · subst e
    cases rx
    obtain ⟨its, r, ht, hz⟩ := I.tuple hx
    have hlen : its.toArray.size = xs.length := by rw [List.size_toArray]; exact r.length.symm
    refine ⟨"tuple", _, PyProof.Rows.slot_tuple_getitem.lookup, ht.typeIs, ?_⟩
    refine HT.getItem_tuple_whole ht hs pl pu (by rw [hlen]; exact hw.1) (by rw [hlen]; exact hw.2) ?_ (by rw [hlen]; exact hz)
    refine ⟨.ref a, H, I, rfl, q1 ?_⟩
    unfold cutV
    rw [hw.1, hw.2, List.drop_zero, Nat.sub_zero, List.take_length]
  · exact sl_tup pins s σ H x v vl vu lo hi sl Q I rx hs pl pu ⟨a, xs, e, hx, hw, q2⟩
end
def cutD (xs : List Dat) (lo hi : Option Int) : List Dat := (xs.drop (HT.sIx xs.length 0 lo)).take (HT.sIx xs.length xs.length hi - HT.sIx xs.length 0 lo)
mutual
def Dat.py : Dat → Option PyData
  | .at .non => some .none
  | .at (.bl b) => some (.bool b)
  | .at (.int i) => some (.int i)
  | .at (.str z) => some (.str z)
  | .at _ => none
  | .lst xs => (Dat.pys xs).map .list
  | .tup xs => (Dat.pys xs).map .tuple
  | .ins _ _ => none
  | .dic _ => none
  | .clo _ _ _ _ _ => none
  | .obj _ _ => none
def Dat.pys : List Dat → Option (List PyData)
  | [] => some []
  | d :: ds => match d.py, Dat.pys ds with
    | some a, some b => some (a :: b)
    | _, _ => none
end
section
variable {K : PySem.W.Frag} {D H : Hp}
theorem Reps.cut {vs : List V} {ds : List Dat} (h : Reps K D vs ds) (lo hi : Option Int) : Reps K D (cutV vs lo hi) (cutD ds lo hi) := by
  unfold cutV cutD
  rw [h.length]
  exact (h.drop _).take _
theorem Reps.atI {vs : List V} {ds : List Dat} {i : Int} {d : Dat} (h : Reps K D vs ds) (e : atI ds i = some d) : ∃ v, L2.atI vs i = some v ∧ Rep K D v d := by
  unfold L2.atI at e ⊢
  rw [h.length]
  cases q : ixN ds.length i with
  | none => rw [q] at e; cases e
  | some j => rw [q] at e; exact h.get e
theorem py_all : (∀ {v : V} {d : Dat}, Rep K D v d → ∀ p, d.py = some p → Ex D H → Dp K H v p) ∧ (∀ {vs : List V} {ds : List Dat}, Reps K D vs ds → ∀ ps, Dat.pys ds = some ps → Ex D H → DpAll K H vs ps) := by
  have at_ : ∀ {v : V}, ∀ p, Dat.py (.at v) = some p → Ex D H → Dp K H v p := fun {v} p hp _ => by
    cases v <;> (unfold Dat.py at hp; first | (cases hp; first | exact .non | exact .bl _ | exact .int _ | exact .str _) | cases hp)
  have lst_ : ∀ {a xs ds}, D a = some (.lst xs) → Reps K D xs ds → (∀ ps, Dat.pys ds = some ps → Ex D H → DpAll K H xs ps) → ∀ p, Dat.py (.lst ds) = some p → Ex D H → Dp K H (.ref a) p := fun {a xs ds} h _ ih p hp e => by
    unfold Dat.py at hp
    cases q : Dat.pys ds with
    | none => rw [q] at hp; cases hp
    | some ps => rw [q] at hp; cases hp; exact .lst (SqL.of (e _ _ h)) (ih ps q e)
  have tup_ : ∀ {a xs ds}, D a = some (.tup xs) → Reps K D xs ds → (∀ ps, Dat.pys ds = some ps → Ex D H → DpAll K H xs ps) → ∀ p, Dat.py (.tup ds) = some p → Ex D H → Dp K H (.ref a) p := fun {a xs ds} h _ ih p hp e => by
    unfold Dat.py at hp
    cases q : Dat.pys ds with
    | none => rw [q] at hp; cases hp
    | some ps => rw [q] at hp; cases hp; exact .tup (SqT.of (e _ _ h)) (ih ps q e)
  have cons_ : ∀ {v vs d ds}, Rep K D v d → Reps K D vs ds → (∀ p, d.py = some p → Ex D H → Dp K H v p) → (∀ ps, Dat.pys ds = some ps → Ex D H → DpAll K H vs ps) → ∀ ps, Dat.pys (d :: ds) = some ps → Ex D H → DpAll K H (v :: vs) ps := fun {v vs d ds} _ _ i1 i2 ps hp e => by
    unfold Dat.pys at hp
    cases q1 : d.py with
    | none => rw [q1] at hp; cases hp
    | some p =>
      cases q2 : Dat.pys ds with
      | none => rw [q1, q2] at hp; cases hp
      | some ps' => rw [q1, q2] at hp; cases hp; exact .cons (i1 p q1 e) (i2 ps' q2 e)
  have nil_ : ∀ ps, Dat.pys [] = some ps → Ex D H → DpAll K H [] ps := fun ps hp _ => by
    unfold Dat.pys at hp; cases hp; exact .nil
  have ins_ : ∀ {a C dx fs ds}, D a = some (.ins C dx fs) → RepF K D fs ds → True → ∀ p, Dat.py (.ins C ds) = some p → Ex D H → Dp K H (.ref a) p := fun {a C dx fs ds} _ _ _ p hp _ => by unfold Dat.py at hp; cases hp
  have dic_ : ∀ {a ks kvs}, D a = some (.dK ks) → RepK K D ks kvs → True → ∀ p, Dat.py (.dic kvs) = some p → Ex D H → Dp K H (.ref a) p := fun {a ks kvs} _ _ _ p hp _ => by unfold Dat.py at hp; cases hp
  have clo_ : ∀ {f F body ws wd}, D f = some (Lo.LamO f F body) → D F.c = some (CodeO F.c F.qual) → Reps K D ws wd → (∀ ps, Dat.pys wd = some ps → Ex D H → DpAll K H ws ps) → ∀ p, Dat.py (.clo f F body ws wd) = some p → Ex D H → Dp K H (.ref f) p := fun {f F body ws wd} _ _ _ _ p hp _ => by unfold Dat.py at hp; cases hp
  have obj_ : ∀ {a os}, (∀ p ∈ os, D p.1 = some p.2) → ∀ p, Dat.py (.obj a os) = some p → Ex D H → Dp K H (.ref a) p := fun {a os} _ p hp _ => by unfold Dat.py at hp; cases hp
  refine ⟨fun {v d} h => ?_, fun {vs ds} h => ?_⟩
  · exact Rep.rec (motive_1 := fun v d _ => ∀ p, d.py = some p → Ex D H → Dp K H v p) (motive_2 := fun vs ds _ => ∀ ps, Dat.pys ds = some ps → Ex D H → DpAll K H vs ps) (motive_3 := fun _ _ _ => True) (motive_4 := fun _ _ _ => True)
      at_ lst_ tup_ ins_ dic_ clo_ obj_ nil_ cons_ trivial (fun _ _ _ _ => trivial) trivial (fun _ _ _ _ => trivial) h
  · exact Reps.rec (motive_1 := fun v d _ => ∀ p, d.py = some p → Ex D H → Dp K H v p) (motive_2 := fun vs ds _ => ∀ ps, Dat.pys ds = some ps → Ex D H → DpAll K H vs ps) (motive_3 := fun _ _ _ => True) (motive_4 := fun _ _ _ => True)
      at_ lst_ tup_ ins_ dic_ clo_ obj_ nil_ cons_ trivial (fun _ _ _ _ => trivial) trivial (fun _ _ _ _ => trivial) h
theorem Rep.py {v : V} {d : Dat} {p : PyData} (h : Rep K D v d) (hp : d.py = some p) (e : Ex D H) : Dp K H v p := py_all.1 h p hp e
theorem Reps.ints {xs : List V} {ns : List Int} (h : Reps K D xs (ns.map Dat.int)) : xs = ns.map V.int := by
  induction ns generalizing xs with
  | nil => cases h; rfl
  | cons n ns ih => cases h with | cons a b => rw [a.inv_at, ih b]; rfl
theorem Reps.bls {xs : List V} {ns : List Bool} (h : Reps K D xs (ns.map Dat.bl)) : xs = ns.map V.bl := by
  induction ns generalizing xs with
  | nil => cases h; rfl
  | cons n ns ih => cases h with | cons a b => rw [a.inv_at, ih b]; rfl
end
section
variable {X : Cx} {T : TL} {Γ : Gm} {M M1 M2 M3 M4 : MM} {e a b c : Expr} {es : List Expr} {d d1 d2 d3 : Dat} {ds ds1 ds2 : List Dat} {pos p1 p2 apos : Pos} {i j : Int} {x f : Str} {C p : Addr} {fs : List (Str × Dat)}
/-! items -/
theorem dx_ix (ha : DX X T Γ M a d1 M1) (hb : DX X T Γ M1 b (.int i) M2) (hq : d1.seq = some ds) (hi : atI ds i = some d) (hs : PlainIx b := by intro _ _; rfl) : DX X T Γ M (.Subscript a b pos) d M2 :=
  pe_w (pe_ix ix_seq ha hb hs) fun σ H Q ⟨D, s, l, k⟩ => ⟨D, s, l, fun x D1 H1 f1 r1 => ⟨D1, f1.sat, l.mono f1.ex, fun y D2 H2 f2 r2 => by
    obtain ⟨p, xs, ev, sq, rs⟩ := rep_seq (r1.mono f2.ex) hq f2.sat.ex
    obtain ⟨v, hv, rv⟩ := rs.atI hi
    rcases sq with sq | sq
    · exact .inl ⟨p, xs, i, v, ev, r2.inv_at, sq, hv, k v D2 H2 (f1.trans f2) rv⟩
    · exact .inr (.inl ⟨p, xs, i, v, ev, r2.inv_at, sq, hv, k v D2 H2 (f1.trans f2) rv⟩)⟩⟩
theorem dx_ixM (ha : DX X T Γ M a (.ptr p) M1) (hb : DX X T Γ M1 b (.int i) M2) (hm : M2 p = some (.ml ds)) (hi : atI ds i = some d) (hs : PlainIx b := by intro _ _; rfl) : DX X T Γ M (.Subscript a b pos) d M2 :=
  pe_w (pe_ix ix_seq ha hb hs) fun σ H Q ⟨D, s, l, k⟩ => ⟨D, s, l, fun x D1 H1 f1 r1 => ⟨D1, f1.sat, l.mono f1.ex, fun y D2 H2 f2 r2 => by
    obtain ⟨xs, hx, rs⟩ := (f2.sat.mu _ _ hm).2
    obtain ⟨v, hv, rv⟩ := rs.atI hi
    exact .inl ⟨p, xs, i, v, r1.inv_at, r2.inv_at, SqL.of hx, hv, k v D2 H2 (f1.trans f2) rv⟩⟩⟩
theorem RepK.get {K : PySem.W.Frag} {D : Hp} {ks : List (Key × V)} {kvs : List (Int × Dat)} (h : RepK K D ks kvs) (e : kvs.lookup i = some d) : ∃ v, valV ks (Sum.inl i : Key) = some v ∧ Rep K D v d := by
  induction kvs generalizing ks with
  | nil => cases e
  | cons q r ih =>
    cases h with | @cons k v ks' d' _ r1 r2 =>
    rw [List.lookup_cons] at e
    by_cases hk : i = k
    · subst hk
      rw [show (i == i) = true from by simp] at e
      cases e
      exact ⟨v, valV_pos rfl, r1⟩
    · rw [show (i == k) = false from by simp [hk]] at e
      obtain ⟨w, h1, h2⟩ := ih r2 e
      exact ⟨w, by rw [valV_neg (by intro z; exact hk (Sum.inl.inj z).symm)]; exact h1, h2⟩
theorem dx_dget {kvs : List (Int × Dat)} (hu : X.A.units + 1 < cLine) (ha : DX X T Γ M a (.dic kvs) M1) (hb : DX X T Γ M1 b (.int i) M2) (hi : kvs.lookup i = some d) (hs : NoSl b := by intro _ _; rfl) : DX X T Γ M (.Subscript a b pos) d M2 :=
  pe_w (pe_dget hu ha hb hs) fun σ H Q ⟨D, s, l, k⟩ => ⟨D, s, l, fun x D1 H1 f1 r1 => ⟨D1, f1.sat, l.mono f1.ex, fun y D2 H2 f2 r2 => by
    cases r1 with | @dic a' ks _ h1 q1 =>
    obtain ⟨v, hv, rv⟩ := q1.get hi
    refine ⟨a', v, rfl, ?_, k v D2 H2 (f1.trans f2) (rv.mono f2.ex)⟩
    rw [r2.inv_at, ← hv]
    exact DGet.k (k := Sum.inl i) (f2.sat.ex _ _ (f2.ex _ _ h1))⟩⟩
theorem dx_dgetM {kvs : List (Int × Dat)} (hu : X.A.units + 1 < cLine) (ha : DX X T Γ M a (.ptr p) M1) (hb : DX X T Γ M1 b (.int i) M2) (hm : M2 p = some (.md kvs)) (hi : kvs.lookup i = some d) (hs : NoSl b := by intro _ _; rfl) : DX X T Γ M (.Subscript a b pos) d M2 :=
  pe_w (pe_dget hu ha hb hs) fun σ H Q ⟨D, s, l, k⟩ => ⟨D, s, l, fun x D1 H1 f1 r1 => ⟨D1, f1.sat, l.mono f1.ex, fun y D2 H2 f2 r2 => by
    obtain ⟨ks, hx, rs⟩ := (f2.sat.mu _ _ hm).2
    obtain ⟨v, hv, rv⟩ := rs.get hi
    refine ⟨p, v, r1.inv_at, ?_, k v D2 H2 (f1.trans f2) rv⟩
    rw [r2.inv_at, ← hv]
    exact DGet.k (k := Sum.inl i) hx⟩⟩
/-! slices -/
theorem ox_none : OX X T Γ M none none M := po_w po_none fun σ H Q ⟨D, s, l, k⟩ => k D H (Fw.refl s)
theorem ox_some (h : DX X T Γ M e (.int i) M1) : OX X T Γ M (some e) (some i) M1 := po_w (po_some h) fun σ H Q ⟨D, s, l, k⟩ => ⟨D, s, l, fun v D1 H1 f1 r1 => ⟨i, r1.inv_at, k D1 H1 f1⟩⟩
theorem dx_slL {lo hi : Option Expr} {ol oh : Option Int} (ha : DX X T Γ M a (.lst ds) M1) (h1 : OX X T Γ M1 lo ol M2) (h2 : OX X T Γ M2 hi oh M3) : DX X T Γ M (.Subscript a (.Slice lo hi none p2) pos) (.lst (cutD ds ol oh)) M3 :=
  pe_w (pe_slice sl_list ha h1 h2) fun σ H Q ⟨D, s, l, k⟩ => ⟨D, s, l, fun x D1 H1 f1 r1 => ⟨D1, f1.sat, l.mono f1.ex, fun D2 H2 f2 => ⟨D2, f2.sat, (l.mono f1.ex).mono f2.ex, fun D3 H3 f3 => by
    cases r1 with | @lst a1 xs _ e1 q1 =>
    refine ⟨a1, xs, rfl, SqL.of (f3.sat.ex _ _ (f3.ex _ _ (f2.ex _ _ e1))), fun p hp => ?_⟩
    have g := f3.sat.new hp (.lst (cutV xs ol oh))
    exact k _ _ _ (((f1.trans f2).trans f3).trans g) (.lst upd_same ((q1.cut ol oh).mono ((f2.ex.trans f3.ex).trans g.ex)))⟩⟩⟩
theorem dx_slT {lo hi : Option Expr} {ol oh : Option Int} (ha : DX X T Γ M a (.tup ds) M1) (h1 : OX X T Γ M1 lo ol M2) (h2 : OX X T Γ M2 hi oh M3) : DX X T Γ M (.Subscript a (.Slice lo hi none p2) pos) (.tup (cutD ds ol oh)) M3 :=
  pe_w (pe_slice sl_tupa ha h1 h2) fun σ H Q ⟨D, s, l, k⟩ => ⟨D, s, l, fun x D1 H1 f1 r1 => ⟨D1, f1.sat, l.mono f1.ex, fun D2 H2 f2 => ⟨D2, f2.sat, (l.mono f1.ex).mono f2.ex, fun D3 H3 f3 => by
    cases r1 with | @tup a1 xs _ e1 q1 =>
    have ex3 := f2.ex.trans f3.ex
    refine ⟨a1, xs, rfl, SqT.of (f3.sat.ex _ _ (ex3 _ _ e1)), fun e => ?_, fun p hp => ?_⟩
    · refine k _ _ _ ((f1.trans f2).trans f3) (.tup (ex3 _ _ e1) ?_)
      have q2 := (q1.cut ol oh).mono ex3
      rw [e] at q2
      exact q2
    · have g := f3.sat.new hp (.tup (cutV xs ol oh))
      exact k _ _ _ (((f1.trans f2).trans f3).trans g) (.tup upd_same ((q1.cut ol oh).mono (ex3.trans g.ex)))⟩⟩⟩
/-! attributes -/
theorem dx_fld (cl : Cls X.K C) (na : NoAttr X.K C f) (ha : DX X T Γ M e (.ins C fs) M1) (hl : fs.lookup f = some d) (hb : attributeBase e f X.env (eval e X.env) = eval e X.env := by rfl) : DX X T Γ M (.Attribute e f pos) d M1 :=
  pe_w (pe_fld ha hb) fun σ H Q ⟨D, s, l, k⟩ => ⟨D, s, l, fun x D1 H1 f1 r1 => by
    cases r1 with | @ins a1 _ dx fs' _ e1 q1 =>
    obtain ⟨v, hv, rv⟩ := q1.lookup hl
    exact ⟨a1, C, dx, fs', v, rfl, f1.sat.ex _ _ e1, cl, na, hv, k v D1 H1 f1 rv⟩⟩
theorem dx_fldM (cl : Cls X.K C) (na : NoAttr X.K C f) (ha : DX X T Γ M e (.ptr p) M1) (hm : M1 p = some (.mi C fs)) (hl : fs.lookup f = some d) (hb : attributeBase e f X.env (eval e X.env) = eval e X.env := by rfl) : DX X T Γ M (.Attribute e f pos) d M1 :=
  pe_w (pe_fld ha hb) fun σ H Q ⟨D, s, l, k⟩ => ⟨D, s, l, fun x D1 H1 f1 r1 => by
    obtain ⟨dx, fs', hx, rs⟩ := (f1.sat.mu _ _ hm).2
    obtain ⟨v, hv, rv⟩ := rs.lookup hl
    exact ⟨p, C, dx, fs', v, r1.inv_at, hx, cl, na, hv, k v D1 H1 f1 rv⟩⟩
/-! built-in functions -/
theorem dx_callB {id : String} {r : List V → Hp → VK → Prop} (hc : CallR X (.builtin id) r) (hm : X.mg x = none) (hv : bootBuiltins x = some (.builtin id)) (ha : AX X T Γ M (e :: es) ds M1)
    (hr : ∀ D H vs Q, Sat X.K T D M1 H → Reps X.K D vs ds → (∀ v D' H', Fw X.K T M1 D H M2 D' H' → Rep X.K D' v d → Q v H') → r vs H Q) (hg : Gl X x := by rfl) (hn : x ≠ "__name__" := by decide) (hdb : (x == ("__debug__" : Str)) = false := by decide)
    (he : starEach (e :: es) X.env = (false, eval e X.env) :: starEach es X.env := by rfl) (hpl : (backTo pos (starEach es X.env)).any (·.1) = false := by rfl) : DX X T Γ M (.Call (.Name x p1) (e :: es) [] pos) d M2 :=
  pe_w (pe_callB hc hg hm hv ha hn hdb he hpl) fun σ H Q ⟨D, s, l, k⟩ => ⟨D, s, l, fun vs D1 H1 f1 r1 => hr D1 H1 vs Q f1.sat r1 fun v D' H' g rv => k v D' H' (f1.trans g) rv⟩
theorem dx_callTy {ty : String} {r : List V → Hp → VK → Prop} (hc : CallR X (.type ty) r) (hm : X.mg x = none) (hv : bootBuiltins x = some (.type ty)) (ha : AX X T Γ M (e :: es) ds M1)
    (hr : ∀ D H vs Q, Sat X.K T D M1 H → Reps X.K D vs ds → (∀ v D' H', Fw X.K T M1 D H M2 D' H' → Rep X.K D' v d → Q v H') → r vs H Q) (hg : Gl X x := by rfl) (hn : x ≠ "__name__" := by decide) (hdb : (x == ("__debug__" : Str)) = false := by decide)
    (he : starEach (e :: es) X.env = (false, eval e X.env) :: starEach es X.env := by rfl) (hpl : (backTo pos (starEach es X.env)).any (·.1) = false := by rfl) : DX X T Γ M (.Call (.Name x p1) (e :: es) [] pos) d M2 :=
  pe_w (pe_callTy hc hg hm hv ha hn hdb he hpl) fun σ H Q ⟨D, s, l, k⟩ => ⟨D, s, l, fun vs D1 H1 f1 r1 => hr D1 H1 vs Q f1.sat r1 fun v D' H' g rv => k v D' H' (f1.trans g) rv⟩
theorem reps1 {K : PySem.W.Frag} {D : Hp} {vs : List V} (h : Reps K D vs [d]) : ∃ v, vs = [v] ∧ Rep K D v d := by cases h with | cons a b => cases b; exact ⟨_, rfl, a⟩
theorem reps2 {K : PySem.W.Frag} {D : Hp} {vs : List V} (h : Reps K D vs [d1, d2]) : ∃ v w, vs = [v, w] ∧ Rep K D v d1 ∧ Rep K D w d2 := by cases h with | cons a b => cases b with | cons b c => cases c; exact ⟨_, _, rfl, a, b⟩
theorem reps3 {K : PySem.W.Frag} {D : Hp} {vs : List V} (h : Reps K D vs [d1, d2, d3]) : ∃ v w z, vs = [v, w, z] ∧ Rep K D v d1 ∧ Rep K D w d2 ∧ Rep K D z d3 := by cases h with | cons a b => cases b with | cons b c => cases c with | cons c e => cases e; exact ⟨_, _, _, rfl, a, b, c⟩
theorem dx_len (hm : X.mg "len" = none) (ha : DX X T Γ M e d1 M1) (hq : d1.seq = some ds) (hg : Gl X "len" := by rfl) (he : starEach [e] X.env = (false, eval e X.env) :: starEach [] X.env := by rfl) : DX X T Γ M (.Call (.Name "len" p1) [e] [] pos) (.int ds.length) M1 :=
  dx_callB call_len_seq hm boot_len (ax_cons ha ax_nil he) (fun D H vs Q s r k => by
    obtain ⟨v, ev, rv⟩ := reps1 r
    obtain ⟨p, xs, ex, sq, rs⟩ := rep_seq rv hq s.ex
    subst ev ex
    exact ⟨p, xs, rfl, sq, by rw [rs.length]; exact k _ D H (Fw.refl s) .at⟩) hg (he := he)
theorem dx_lenM (hm : X.mg "len" = none) (ha : DX X T Γ M e (.ptr p) M1) (hp : M1 p = some (.ml ds)) (hg : Gl X "len" := by rfl) (he : starEach [e] X.env = (false, eval e X.env) :: starEach [] X.env := by rfl) : DX X T Γ M (.Call (.Name "len" p1) [e] [] pos) (.int ds.length) M1 :=
  dx_callB call_len_seq hm boot_len (ax_cons ha ax_nil he) (fun D H vs Q s r k => by
    obtain ⟨v, ev, rv⟩ := reps1 r
    obtain ⟨xs, hx, rs⟩ := (s.mu _ _ hp).2
    cases rv
    subst ev
    exact ⟨p, xs, rfl, .inl (SqL.of hx), by rw [rs.length]; exact k _ D H (Fw.refl s) .at⟩) hg (he := he)
theorem dx_sum {ns : List Int} (hc : X.calm = true) (hm : X.mg "sum" = none) (ha : DX X T Γ M e (.lst (ns.map Dat.int)) M1) (hg : Gl X "sum" := by rfl) (he : starEach [e] X.env = (false, eval e X.env) :: starEach [] X.env := by rfl) : DX X T Γ M (.Call (.Name "sum" p1) [e] [] pos) (.int ns.sum) M1 :=
  dx_callB (cr_sum hc) hm (by decide +kernel) (ax_cons ha ax_nil he) (fun D H vs Q s r k => by
    obtain ⟨v, ev, rv⟩ := reps1 r
    cases rv with | @lst a xs _ h1 q1 =>
    have e1 := q1.ints
    subst ev e1
    exact ⟨a, ns, rfl, SqL.of (s.ex _ _ h1), k _ D H (Fw.refl s) .at⟩) hg (he := he)
theorem dx_all {ns : List Bool} (hc : X.calm = true) (hm : X.mg "all" = none) (ha : DX X T Γ M e (.lst (ns.map Dat.bl)) M1) (hg : Gl X "all" := by rfl) (he : starEach [e] X.env = (false, eval e X.env) :: starEach [] X.env := by rfl) : DX X T Γ M (.Call (.Name "all" p1) [e] [] pos) (.bl (ns.all id)) M1 :=
  dx_callB (cr_all hc) hm (by decide +kernel) (ax_cons ha ax_nil he) (fun D H vs Q s r k => by
    obtain ⟨v, ev, rv⟩ := reps1 r
    cases rv with | @lst a xs _ h1 q1 =>
    have e1 := q1.bls
    subst ev e1
    exact ⟨a, ns, rfl, SqL.of (s.ex _ _ h1), k _ D H (Fw.refl s) .at⟩) hg (he := he)
theorem dx_abs (hm : X.mg "abs" = none) (ha : DX X T Γ M e (.int i) M1) (hg : Gl X "abs" := by rfl) (he : starEach [e] X.env = (false, eval e X.env) :: starEach [] X.env := by rfl) : DX X T Γ M (.Call (.Name "abs" p1) [e] [] pos) (.int (if i < 0 then -i else i)) M1 :=
  dx_callB call_abs hm (by decide +kernel) (ax_cons ha ax_nil he) (fun D H vs Q s r k => by
    obtain ⟨v, ev, rv⟩ := reps1 r
    cases rv
    subst ev
    exact ⟨i, rfl, k _ D H (Fw.refl s) .at⟩) hg (he := he)
theorem dx_min2 (hc : X.calm = true) (hm : X.mg "min" = none) (ha : DX X T Γ M a (.int i) M1) (hb : DX X T Γ M1 b (.int j) M2) (hg : Gl X "min" := by rfl) (he : starEach [a, b] X.env = (false, eval a X.env) :: starEach [b] X.env := by rfl) (he2 : starEach [b] X.env = (false, eval b X.env) :: starEach [] X.env := by rfl) (hpl : (backTo pos (starEach [b] X.env)).any (·.1) = false := by rfl) : DX X T Γ M (.Call (.Name "min" p1) [a, b] [] pos) (.int (if j < i then j else i)) M2 :=
  dx_callB (call_min2 hc) hm (by decide +kernel) (ax_cons ha (ax_cons hb ax_nil he2) he) (fun D H vs Q s r k => by
    obtain ⟨v, w, ev, rv, rw'⟩ := reps2 r
    cases rv
    cases rw'
    subst ev
    exact ⟨i, j, rfl, k _ D H (Fw.refl s) .at⟩) hg (he := he) (hpl := hpl)
theorem dx_intI (hm : X.mg "int" = none) (ha : DX X T Γ M e (.int i) M1) (hg : Gl X "int" := by rfl) (he : starEach [e] X.env = (false, eval e X.env) :: starEach [] X.env := by rfl) : DX X T Γ M (.Call (.Name "int" p1) [e] [] pos) (.int i) M1 :=
  dx_callTy call_int1 hm (by decide +kernel) (ax_cons ha ax_nil he) (fun D H vs Q s r k => by
    obtain ⟨v, ev, rv⟩ := reps1 r
    cases rv
    subst ev
    exact .inl ⟨i, rfl, k _ D H (Fw.refl s) .at⟩) hg (he := he)
theorem dx_intB {bb : Bool} (hm : X.mg "int" = none) (ha : DX X T Γ M e (.bl bb) M1) (hg : Gl X "int" := by rfl) (he : starEach [e] X.env = (false, eval e X.env) :: starEach [] X.env := by rfl) : DX X T Γ M (.Call (.Name "int" p1) [e] [] pos) (.int (if bb then 1 else 0)) M1 :=
  dx_callTy call_int1 hm (by decide +kernel) (ax_cons ha ax_nil he) (fun D H vs Q s r k => by
    obtain ⟨v, ev, rv⟩ := reps1 r
    cases rv
    subst ev
    exact .inr ⟨bb, rfl, k _ D H (Fw.refl s) .at⟩) hg (he := he)
theorem dx_list (hm : X.mg "list" = none) (ha : DX X T Γ M e d1 M1) (hq : d1.seq = some ds) (hg : Gl X "list" := by rfl) (he : starEach [e] X.env = (false, eval e X.env) :: starEach [] X.env := by rfl) : DX X T Γ M (.Call (.Name "list" p1) [e] [] pos) (.lst ds) M1 :=
  dx_callTy call_list_of hm (by decide +kernel) (ax_cons ha ax_nil he) (fun D H vs Q s r k => by
    obtain ⟨v, ev, rv⟩ := reps1 r
    obtain ⟨p, xs, ex, sq, rs⟩ := rep_seq rv hq s.ex
    subst ev ex
    refine ⟨p, xs, rfl, sq, fun l hl => ?_⟩
    have g := s.new hl (.lst xs)
    exact k _ _ _ g (.lst upd_same (rs.mono g.ex))) hg (he := he)
theorem dx_tuple (hm : X.mg "tuple" = none) (ha : DX X T Γ M e d1 M1) (hq : d1.seq = some ds) (hg : Gl X "tuple" := by rfl) (he : starEach [e] X.env = (false, eval e X.env) :: starEach [] X.env := by rfl) : DX X T Γ M (.Call (.Name "tuple" p1) [e] [] pos) (.tup ds) M1 :=
  dx_callTy call_tuple_of hm (by decide +kernel) (ax_cons ha ax_nil he) (fun D H vs Q s r k => by
    obtain ⟨v, ev, rv⟩ := reps1 r
    subst ev
    cases d1 with
    | lst _ =>
      cases hq
      cases rv with | @lst a xs _ h1 q1 =>
      refine ⟨a, xs, rfl, .inl ⟨SqL.of (s.ex _ _ h1), fun l hl => ?_⟩⟩
      have g := s.new hl (.tup xs)
      exact k _ _ _ g (.tup upd_same (q1.mono g.ex))
    | tup _ =>
      cases hq
      cases rv with | @tup a xs _ h1 q1 =>
      exact ⟨a, xs, rfl, .inr ⟨SqT.of (s.ex _ _ h1), k _ D H (Fw.refl s) (.tup h1 q1)⟩⟩
    | _ => cases hq) hg (he := he)
theorem dx_tupleM (hm : X.mg "tuple" = none) (ha : DX X T Γ M e (.ptr p) M1) (hp : M1 p = some (.ml ds)) (hg : Gl X "tuple" := by rfl) (he : starEach [e] X.env = (false, eval e X.env) :: starEach [] X.env := by rfl) : DX X T Γ M (.Call (.Name "tuple" p1) [e] [] pos) (.tup ds) M1 :=
  dx_callTy call_tuple_of hm (by decide +kernel) (ax_cons ha ax_nil he) (fun D H vs Q s r k => by
    obtain ⟨v, ev, rv⟩ := reps1 r
    subst ev
    obtain ⟨xs, hx, rs⟩ := (s.mu _ _ hp).2
    cases rv
    refine ⟨p, xs, rfl, .inl ⟨SqL.of hx, fun l hl => ?_⟩⟩
    have g := s.new hl (.tup xs)
    exact k _ _ _ g (.tup upd_same (rs.mono g.ex))) hg (he := he)
/-! equal data -/
theorem dx_eqSame {q : PyData} (hu : X.A.units + 64 < cLine) (ha : DX X T Γ M a d1 M1) (hb : DX X T Γ M1 b d2 M2) (h1 : d1.py = some q) (h2 : d2.py = some q) (hs : SeqAt.shaped q = true) : DX X T Γ M (.Compare a [.Eq] [b] pos) (.bl true) M2 :=
  dx_cmp (op_eqD hu) ha hb (nomark _) fun D H x y Q s r1 r2 k => ⟨q, q, r1.py h1 s.ex, r2.py h2 s.ex, hs, hs, by rw [SeqAt.eqv_refl _ (SeqAt.canLay_of_shaped hs)]; exact k⟩
theorem dx_neSame {q : PyData} (hu : X.A.units + 64 < cLine) (ha : DX X T Γ M a d1 M1) (hb : DX X T Γ M1 b d2 M2) (h1 : d1.py = some q) (h2 : d2.py = some q) (hs : SeqAt.shaped q = true) : DX X T Γ M (.Compare a [.NotEq] [b] pos) (.bl false) M2 :=
  dx_cmp (op_neD hu) ha hb (nomark _) fun D H x y Q s r1 r2 k => ⟨q, q, r1.py h1 s.ex, r2.py h2 s.ex, hs, hs, by rw [SeqAt.eqv_refl _ (SeqAt.canLay_of_shaped hs)]; exact k⟩
end
end Da
end
section
set_option autoImplicit false
/-! Promises over data, calls. -/
namespace Da
open PySem PySem.Spec PyProof.Rows L2 StX LamX
/-- what a call of ds at M comes to: every R that holds of the answer -/
abbrev PtD := List Dat → MM → (Dat → MM → Prop) → Prop
def spD (K : PySem.W.Frag) (T : TL) (P : PtD) : Sp := fun vs H Q _ => ∃ D M ds R, Sat K T D M H ∧ Reps K D vs ds ∧ P ds M R ∧ ∀ v d M' D' H', R d M' → Fw K T M D H M' D' H' → Rep K D' v d → Q v H'
section
variable {X : Cx} {CX : CXT} {k : Nat} {f C g p q : Addr} {sp : Sp} {E : XK} {x m : Str} {p1 pos apos sp_ : Pos} {e o : Expr} {es : List Expr} {ta te : TE} {t : TA}
/-! rules by FnR -/
theorem pe_callR (F : FnR X.prog X.w X.K X.mg X.base CX k f sp) (hr : Room k X.A) (hg : Gl X x) (hm : X.mg x = some (.ref f)) (hk : PySem.W.keepIn X.K (.ref f) = true) (hx : Passes CX X E) (ha : PA X (e :: es) t)
    (hd : (x == ("__debug__" : Str)) = false := by decide) (he : starEach (e :: es) X.env = (false, eval e X.env) :: starEach es X.env := by rfl) (hpl : (backTo pos (starEach es X.env)).any (·.1) = false := by rfl) :
    PE X (.Call (.Name x p1) (e :: es) [] pos) (fun σ H Q => t σ H fun vs H1 => sp vs H1 Q E) := by
  refine ⟨fun pins s σ H Q I h => ?_⟩
  refine wpAny_Call_Name_kw (ld_glob I hg hm ?_ hd)
  refine PySem.W.callWith_K (h₀ := X.base) I.ok.mod.kin hk (thn (ha.run pos pins s σ H _ I h) fun us s1 ⟨vs, H1, I1, r, q⟩ => ⟨I1.kIn, ?_⟩) he hpl
  exact wpAny_call (run_fnR F hr hx I1 r q)
theorem pe_methR0 {pl : Sem Bool} (he : PE X o ta) (c : Cls X.K C) (hm : Meth X.K C m f) (F : FnR X.prog X.w X.K X.mg X.base CX k f sp) (hr : Room k X.A) (hx : Passes CX X E)
    (ht : eval (.Call (.Attribute o m apos) [] [] pos) X.env = (do
      let ov ← eval o X.env
      standAt apos.atName
      let (f, first) ← holding [ov] (getMethod ov m pl)
      callWith pos f first (backTo pos (starEach [] X.env)) (backToKw pos (keywordEach [] X.env))) := by rfl) :
    PE X (.Call (.Attribute o m apos) [] [] pos) (tMethR C m sp E ta tNil) := by
  refine ⟨fun pins s σ H Q I h => ?_⟩
  refine PySem.W.methodCall_KW (pl := pl) (thn (he.run pins s σ H _ I h) fun u s1 ⟨x, H1, I1, rx, a, dx, fs, ex, ea, l, q⟩ => ?_) ht
  subst ex
  obtain rfl : u = Value.ref a := rx
  refine getmeth_ok I1 ea c hm l ?_
  exact PySem.W.callWith_K0 (first := [.ref a]) I1.kIn hm.kp (wpAny_call (run_fnR (us := [.ref a]) (vs := [.ref a]) F hr hx I1 (.cons rfl .nil) q))
theorem pe_propR {f : Str} {E0 : XK} (he : PE X e ta) (c : Cls X.K C) (hp : PropOf X.K C f p g) (F : FnR X.prog X.w X.K X.mg X.base CX k g sp) (hr : Room (k + 1) X.A) (hx : Passes CX X.nox E0)
    (hab : attributeBase e f X.env (eval e X.env) = eval e X.env) : PE X (.Attribute e f pos) (fun σ H Q => ta σ H fun x H1 => ∃ a dx fs, x = .ref a ∧ H1 a = some (.ins C dx fs) ∧ sp [.ref a] H1 Q E0) := by
  refine ⟨fun pins s σ H Q I h => ?_⟩
  refine attr_of hab (thn (he.run pins s σ H _ I h) fun u s1 ⟨x, H1, I1, rx, a, dx, fs, ex, ea, q⟩ => ?_)
  subst ex
  obtain rfl : u = Value.ref a := rx
  obtain ⟨mA, O, _, _, _, _⟩ := ins_get I1.hok ea
  obtain ⟨od, J, _⟩ := O.look
  obtain ⟨rest, hrec⟩ := hp.rec_
  have I2 := I1.tok (s1.toks + 1)
  have hc : (PySem.W.clsIn X.K C).isSome = true := by
    obtain ⟨cd, hc, _⟩ := PySem.W.any_some c.hd
    rw [hc]
    rfl
  refine PySem.W.get_bind I1.kIn J (PySem.W.plainGet_of (c.get f)).1 (PySem.W.findObj_data hc hp.at_ hp.get hp.tak) (PySem.W.plainGet_of (c.get f)).2 (wpAny_call (PySem.W.prop_get (s := { s1 with toks := s1.toks + 1 }) I1.kIn hrec ?_))
  refine codeAny_mono (F X.A.in1 X.stack { s1 with toks := s1.toks + 1 } H1 [.ref a] [.ref a] Q E0 hr.in1 I2.env0.in1 (.cons rfl .nil) q) fun r s' hq => ?_
  cases r with
  | error er => exact False.elim (hx pins σ H1 { s1 with toks := s1.toks + 1 } er s' (I2.wish _) hq)
  | ok fl =>
    cases fl with
    | ret u =>
      obtain ⟨v, H', I3, rv, q3⟩ := I2.after hq
      show wpAny _ _ (handedOut u) _ _ _
      rw [PySem.W.handedOut_of (handed_of rv)]
      exact wpAny_pure ⟨v, H', I3, rv, q3⟩
    | next => exact False.elim hq
    | brk => exact False.elim hq
    | cont => exact False.elim hq
end
abbrev E0 : XK := fun _ _ _ => False
section
variable {X : Cx} {T : TL} {Γ : Gm} {M M1 M2 M3 M4 : MM} {e a b c o : Expr} {es : List Expr} {d d1 d2 d3 : Dat} {ds ds1 ds2 : List Dat} {pos p1 p2 apos sp_ : Pos} {i j : Int} {x m fl : Str} {C p f g q : Addr} {fs : List (Str × Dat)} {k : Nat} {P : PtD} {R : Dat → MM → Prop}
theorem spD_of {D H : Hp} {vs : List V} {Q : VK} {E : XK} {K : PySem.W.Frag} (s : Sat K T D M H) (r : Reps K D vs ds) (hp : P ds M R) (k : ∀ v d M' D' H', R d M' → Fw K T M D H M' D' H' → Rep K D' v d → Q v H') : spD K T P vs H Q E := ⟨D, M, ds, R, s, r, hp, k⟩
/-- f(e, ..) -/
theorem rx_call (F : FnR X.prog X.w X.K X.mg X.base CX0 k f (spD X.K T P)) (hr : Room k X.A) (hm : X.mg x = some (.ref f)) (hk : PySem.W.keepIn X.K (.ref f) = true) (ha : AX X T Γ M (e :: es) ds M1) (hp : P ds M1 R) (hg : Gl X x := by rfl)
    (hd : (x == ("__debug__" : Str)) = false := by decide) (he : starEach (e :: es) X.env = (false, eval e X.env) :: starEach es X.env := by rfl) (hpl : (backTo pos (starEach es X.env)).any (·.1) = false := by rfl) : RX X T Γ M (.Call (.Name x p1) (e :: es) [] pos) R :=
  pe_w (pe_callR (E := E0) F hr hg hm hk pass0 ha hd he hpl) fun σ H Q ⟨D, s, l, kk⟩ => ⟨D, s, l, fun vs D1 H1 f1 r1 => spD_of f1.sat r1 hp fun v d M' D' H' hR g rv => kk v d D' M' H' hR (f1.trans g) rv⟩
theorem RX.toD (h : RX X T Γ M e fun d' m => d' = d ∧ m = M1) : DX X T Γ M e d M1 := pe_w h fun σ H Q ⟨D, s, l, kk⟩ => ⟨D, s, l, fun v d' D' M' H' ⟨e1, e2⟩ g rv => by subst e1 e2; exact kk v D' H' g rv⟩
abbrev Is (d : Dat) (M : MM) : Dat → MM → Prop := fun d' m => d' = d ∧ m = M
theorem dx_call (F : FnR X.prog X.w X.K X.mg X.base CX0 k f (spD X.K T P)) (hr : Room k X.A) (hm : X.mg x = some (.ref f)) (hk : PySem.W.keepIn X.K (.ref f) = true) (ha : AX X T Γ M (e :: es) ds M1) (hp : P ds M1 (Is d M2)) (hg : Gl X x := by rfl)
    (hd : (x == ("__debug__" : Str)) = false := by decide) (he : starEach (e :: es) X.env = (false, eval e X.env) :: starEach es X.env := by rfl) (hpl : (backTo pos (starEach es X.env)).any (·.1) = false := by rfl) : DX X T Γ M (.Call (.Name x p1) (e :: es) [] pos) d M2 :=
  RX.toD (rx_call F hr hm hk ha hp hg hd he hpl)
/-- f(*e), f(e, .., *y) -/
theorem dx_callS1 (F : FnR X.prog X.w X.K X.mg X.base CX0 k f (spD X.K T P)) (hr : Room k X.A) (hm : X.mg x = some (.ref f)) (hk : PySem.W.keepIn X.K (.ref f) = true) (ha : DX X T Γ M e d1 M1) (hq : d1.seq = some ds) (hp : P ds M1 (Is d M2)) (hg : Gl X x := by rfl)
    (hd : (x == ("__debug__" : Str)) = false := by decide) (hst : starEach [.Starred e sp_] X.env = [(true, eval e X.env)] := by rfl) : DX X T Γ M (.Call (.Name x p1) [.Starred e sp_] [] pos) d M2 :=
  pe_w (pe_callS1 (E := E0) F hr hk hg hm pass0 ha hd hst) fun σ H Q ⟨D, s, l, kk⟩ => ⟨D, s, l, fun v D1 H1 f1 r1 => by
    obtain ⟨p, xs, ev, sq, rs⟩ := rep_seq r1 hq f1.sat.ex
    exact ⟨p, xs, ev, sq.symm, spD_of f1.sat rs hp fun v d M' D' H' ⟨e1, e2⟩ g rv => by subst e1 e2; exact kk v D' H' (f1.trans g) rv⟩⟩
/-- o.m(e, ..), o frozen or mutable -/
def InsD (C : Addr) (m : Str) (d : Dat) (M : MM) : Prop := (∃ fs, d = .ins C fs ∧ fs.lookup m = none) ∨ ∃ p fs, d = .ptr p ∧ M p = some (.mi C fs) ∧ fs.lookup m = none
theorem InsD.at {K : PySem.W.Frag} {D H : Hp} {v : V} (h : InsD C m d M) (s : Sat K T D M H) (r : Rep K D v d) : ∃ a dx fs, v = .ref a ∧ H a = some (.ins C dx fs) ∧ fs.lookup m = none := by
  rcases h with ⟨fs, e, l⟩ | ⟨p, fs, e, hm, l⟩
  · subst e
    cases r with | @ins a _ dx fs' _ h1 q1 =>
    exact ⟨a, dx, fs', rfl, s.ex _ _ h1, q1.lookup_none l⟩
  · subst e
    cases r
    obtain ⟨dx, fs', h1, q1⟩ := (s.mu _ _ hm).2
    exact ⟨p, dx, fs', rfl, h1, q1.lookup_none l⟩
theorem rx_meth {pl : Sem Bool} (F : FnR X.prog X.w X.K X.mg X.base CX0 k f (spD X.K T P)) (hr : Room k X.A) (c : Cls X.K C) (hm : Meth X.K C m f) (ho : DX X T Γ M o d1 M1) (hi : InsD C m d1 M1) (ha : AX X T Γ M1 (e :: es) ds M2) (hp : P (d1 :: ds) M2 R)
    (hst : starEach (e :: es) X.env = (false, eval e X.env) :: starEach es X.env := by rfl) (hpl : (backTo pos (starEach es X.env)).any (·.1) = false := by rfl)
    (ht : eval (.Call (.Attribute o m apos) (e :: es) [] pos) X.env = (do
      let ov ← eval o X.env
      standAt apos.atName
      let (f, first) ← holding [ov] (getMethod ov m pl)
      callWith pos f first (backTo pos (starEach (e :: es) X.env)) (backToKw pos (keywordEach [] X.env))) := by rfl) :
    RX X T Γ M (.Call (.Attribute o m apos) (e :: es) [] pos) R :=
  pe_w (pe_methR (pl := pl) (E := E0) ho c hm F hr pass0 ha hst hpl ht) fun σ H Q ⟨D, s, l, kk⟩ => ⟨D, s, l, fun v D1 H1 f1 r1 => by
    obtain ⟨a, dx, fs, ev, ha, hl⟩ := hi.at f1.sat r1
    subst ev
    exact ⟨a, dx, fs, rfl, ha, hl, D1, f1.sat, l.mono f1.ex, fun vs D2 H2 f2 r2 => spD_of f2.sat (.cons (r1.mono f2.ex) r2) hp fun v d M' D' H' hR g rv => kk v d D' M' H' hR ((f1.trans f2).trans g) rv⟩⟩
theorem dx_meth {pl : Sem Bool} (F : FnR X.prog X.w X.K X.mg X.base CX0 k f (spD X.K T P)) (hr : Room k X.A) (c : Cls X.K C) (hm : Meth X.K C m f) (ho : DX X T Γ M o d1 M1) (hi : InsD C m d1 M1) (ha : AX X T Γ M1 (e :: es) ds M2) (hp : P (d1 :: ds) M2 (Is d M3))
    (hst : starEach (e :: es) X.env = (false, eval e X.env) :: starEach es X.env := by rfl) (hpl : (backTo pos (starEach es X.env)).any (·.1) = false := by rfl)
    (ht : eval (.Call (.Attribute o m apos) (e :: es) [] pos) X.env = (do
      let ov ← eval o X.env
      standAt apos.atName
      let (f, first) ← holding [ov] (getMethod ov m pl)
      callWith pos f first (backTo pos (starEach (e :: es) X.env)) (backToKw pos (keywordEach [] X.env))) := by rfl) :
    DX X T Γ M (.Call (.Attribute o m apos) (e :: es) [] pos) d M3 := RX.toD (rx_meth (pl := pl) F hr c hm ho hi ha hp hst hpl ht)
theorem rx_meth0 {pl : Sem Bool} (F : FnR X.prog X.w X.K X.mg X.base CX0 k f (spD X.K T P)) (hr : Room k X.A) (c : Cls X.K C) (hm : Meth X.K C m f) (ho : DX X T Γ M o d1 M1) (hi : InsD C m d1 M1) (hp : P [d1] M1 R)
    (ht : eval (.Call (.Attribute o m apos) [] [] pos) X.env = (do
      let ov ← eval o X.env
      standAt apos.atName
      let (f, first) ← holding [ov] (getMethod ov m pl)
      callWith pos f first (backTo pos (starEach [] X.env)) (backToKw pos (keywordEach [] X.env))) := by rfl) :
    RX X T Γ M (.Call (.Attribute o m apos) [] [] pos) R :=
  pe_w (pe_methR0 (pl := pl) (E := E0) ho c hm F hr pass0 ht) fun σ H Q ⟨D, s, l, kk⟩ => ⟨D, s, l, fun v D1 H1 f1 r1 => by
    obtain ⟨a, dx, fs, ev, ha, hl⟩ := hi.at f1.sat r1
    subst ev
    exact ⟨a, dx, fs, rfl, ha, hl, spD_of (E := E0) f1.sat (.cons r1 .nil) hp fun v d M' D' H' hR g rv => kk v d D' M' H' hR (f1.trans g) rv⟩⟩
theorem dx_meth0 {pl : Sem Bool} (F : FnR X.prog X.w X.K X.mg X.base CX0 k f (spD X.K T P)) (hr : Room k X.A) (c : Cls X.K C) (hm : Meth X.K C m f) (ho : DX X T Γ M o d1 M1) (hi : InsD C m d1 M1) (hp : P [d1] M1 (Is d M2))
    (ht : eval (.Call (.Attribute o m apos) [] [] pos) X.env = (do
      let ov ← eval o X.env
      standAt apos.atName
      let (f, first) ← holding [ov] (getMethod ov m pl)
      callWith pos f first (backTo pos (starEach [] X.env)) (backToKw pos (keywordEach [] X.env))) := by rfl) :
    DX X T Γ M (.Call (.Attribute o m apos) [] [] pos) d M2 := RX.toD (rx_meth0 (pl := pl) F hr c hm ho hi hp ht)
/-- a property -/
theorem dx_prop (F : FnR X.prog X.w X.K X.mg X.base CX0 k g (spD X.K T P)) (hr : Room (k + 1) X.A) (c : Cls X.K C) (hq : PropOf X.K C fl q g) (ho : DX X T Γ M e d1 M1) (hi : (∃ fs, d1 = .ins C fs) ∨ ∃ p fs, d1 = .ptr p ∧ M1 p = some (.mi C fs)) (hp : P [d1] M1 (Is d M2))
    (hab : attributeBase e fl X.env (eval e X.env) = eval e X.env := by rfl) : DX X T Γ M (.Attribute e fl pos) d M2 :=
  pe_w (pe_propR (E0 := E0) ho c hq F hr pass0 hab) fun σ H Q ⟨D, s, l, kk⟩ => ⟨D, s, l, fun v D1 H1 f1 r1 => by
    have : ∃ a dx fs, v = .ref a ∧ H1 a = some (.ins C dx fs) := by
      rcases hi with ⟨fs, e⟩ | ⟨p, fs, e, hm⟩
      · subst e
        cases r1 with | @ins a _ dx fs' _ h1 q1 => exact ⟨a, dx, fs', rfl, f1.sat.ex _ _ h1⟩
      · subst e
        cases r1
        obtain ⟨dx, fs', h1, q1⟩ := (f1.sat.mu _ _ hm).2
        exact ⟨p, dx, fs', rfl, h1⟩
    obtain ⟨a, dx, fs, ev, ha⟩ := this
    subst ev
    exact ⟨a, dx, fs, rfl, ha, spD_of f1.sat (.cons r1 .nil) hp fun v d M' D' H' ⟨e1, e2⟩ g rv => by subst e1 e2; exact kk v D' H' (f1.trans g) rv⟩⟩
/-- a static method -/
theorem dx_smeth {mc : Value} {pl : Sem Bool} (F : FnR X.prog X.w X.K X.mg X.base CX0 k g (spD X.K T P)) (hr : Room k X.A) (c : Lo.SMet X.K C mc m p g) (ho : DX X T Γ M o (.ptr C) M1) (ha : AX X T Γ M1 (e :: es) ds M2) (hp : P ds M2 (Is d M3))
    (hst : starEach (e :: es) X.env = (false, eval e X.env) :: starEach es X.env := by rfl) (hpl : (backTo pos (starEach es X.env)).any (·.1) = false := by rfl)
    (ht : eval (.Call (.Attribute o m apos) (e :: es) [] pos) X.env = (do
      let ov ← eval o X.env
      standAt apos.atName
      let (f, first) ← holding [ov] (getMethod ov m pl)
      callWith pos f first (backTo pos (starEach (e :: es) X.env)) (backToKw pos (keywordEach [] X.env))) := by rfl) :
    DX X T Γ M (.Call (.Attribute o m apos) (e :: es) [] pos) d M3 :=
  pe_w (Lo.pe_smeth (pl := pl) (E := E0) ho c F hr pass0 ha hst hpl ht) fun σ H Q ⟨D, s, l, kk⟩ => ⟨D, s, l, fun v D1 H1 f1 r1 => ⟨r1.inv_at, D1, f1.sat, l.mono f1.ex, fun vs D2 H2 f2 r2 => spD_of f2.sat r2 hp fun v d M' D' H' ⟨e1, e2⟩ g rv => by subst e1 e2; exact kk v D' H' ((f1.trans f2).trans g) rv⟩⟩
/-! makings -/
theorem make_step {K : PySem.W.Frag} {D H : Hp} {a dx : Addr} (s : Sat K T D M H) (ha : H a = none) (hd : H dx = none) (ne : dx ≠ a) : Fw K T M D H (M.set a (.mi C [])) D (upd (upd H dx (.own a)) a (.ins C dx [])) := by
  have f1 := s.side hd (.own a)
  have h1 : upd H dx (.own a) a = none := by rw [upd_ne (Ne.symm ne)]; exact ha
  exact f1.trans (f1.sat.newM h1 ⟨dx, [], upd_same, .nil⟩)
theorem mk_reads {K : PySem.W.Frag} {D H : Hp} {vs : List V} {Q : VK} {E : XK} (s : Sat K T D M H) (r : Reps K D vs ds) (hp : ∀ a, M a = none → P (.ptr a :: ds) (M.set a (.mi C [])) (fun d' m => d' = .non ∧ R (.ptr a) m))
    (kk : ∀ v d M' D' H', R d M' → Fw K T M D H M' D' H' → Rep K D' v d → Q v H') (a dx : Addr) (ha : H a = none) (hd : H dx = none) (ne : dx ≠ a) :
    spD K T P (.ref a :: vs) (upd (upd H dx (.own a)) a (.ins C dx [])) (fun v H2 => v = .non ∧ Q (.ref a) H2) E := by
  have g := make_step (C := C) s ha hd ne
  exact spD_of g.sat (.cons .at (r.mono g.ex)) (hp a (s.mfree ha)) fun v d M' D' H' ⟨e1, hR⟩ g' rv => by
    subst e1
    cases rv
    exact ⟨rfl, kk _ _ _ _ _ hR (g.trans g') .at⟩
theorem rx_make (F : FnR X.prog X.w X.K X.mg X.base CX0 k f (spD X.K T P)) (hr : Room (k + 1) X.A) (mk : Mk X.K C f) (hm : X.mg x = some (.ref C)) (ha : AX X T Γ M (e :: es) ds M1) (hp : ∀ a, M1 a = none → P (.ptr a :: ds) (M1.set a (.mi C [])) (fun d' m => d' = .non ∧ R (.ptr a) m)) (hg : Gl X x := by rfl)
    (hd : (x == ("__debug__" : Str)) = false := by decide) (he : starEach (e :: es) X.env = (false, eval e X.env) :: starEach es X.env := by rfl) (hpl : (backTo pos (starEach es X.env)).any (·.1) = false := by rfl) : RX X T Γ M (.Call (.Name x p1) (e :: es) [] pos) R :=
  pe_w (pe_makeR (E := E0) mk F hr hg hm pass0 ha hd he hpl) fun σ H Q ⟨D, s, l, kk⟩ => ⟨D, s, l, fun vs D1 H1 f1 r1 => mk_reads f1.sat r1 hp fun v d M' D' H' hR g rv => kk v d D' M' H' hR (f1.trans g) rv⟩
theorem rx_makeS2 (F : FnR X.prog X.w X.K X.mg X.base CX0 k f (spD X.K T P)) (hr : Room (k + 1) X.A) (mk : Mk X.K C f) (hm : X.mg x = some (.ref C)) (ha : AX X T Γ M (e :: es) ds M1) (hp : ∀ a, M1 a = none → P (.ptr a :: ds) (M1.set a (.mi C [])) (fun d' m => d' = .non ∧ R (.ptr a) m)) (hg : Gl X x := by rfl)
    (hd : (x == ("__debug__" : Str)) = false := by decide) (he : starEach (e :: es) X.env = (false, eval e X.env) :: starEach es X.env := by rfl) (hst : (backTo pos (starEach es X.env)).any (·.1) = true := by rfl) : RX X T Γ M (.Call (.Name x p1) (e :: es) [] pos) R :=
  pe_w (Lo.pe_makeS2 (E := E0) mk F hr hg hm pass0 ha hd he hst) fun σ H Q ⟨D, s, l, kk⟩ => ⟨D, s, l, fun vs D1 H1 f1 r1 => mk_reads f1.sat r1 hp fun v d M' D' H' hR g rv => kk v d D' M' H' hR (f1.trans g) rv⟩
theorem rx_makeS1 (F : FnR X.prog X.w X.K X.mg X.base CX0 k f (spD X.K T P)) (hr : Room (k + 1) X.A) (mk : Mk X.K C f) (hm : X.mg x = some (.ref C)) (ha : DX X T Γ M e d1 M1) (hq : d1.seq = some ds) (hp : ∀ a, M1 a = none → P (.ptr a :: ds) (M1.set a (.mi C [])) (fun d' m => d' = .non ∧ R (.ptr a) m)) (hg : Gl X x := by rfl)
    (hd : (x == ("__debug__" : Str)) = false := by decide) (hst : starEach [.Starred e sp_] X.env = [(true, eval e X.env)] := by rfl) : RX X T Γ M (.Call (.Name x p1) [.Starred e sp_] [] pos) R :=
  pe_w (Lo.pe_makeS1 (E := E0) mk F hr hg hm pass0 ha hd hst) fun σ H Q ⟨D, s, l, kk⟩ => ⟨D, s, l, fun v D1 H1 f1 r1 => by
    obtain ⟨p, xs, ev, sq, rs⟩ := rep_seq r1 hq f1.sat.ex
    exact ⟨p, xs, ev, sq.symm, mk_reads f1.sat rs hp fun v d M' D' H' hR g rv => kk v d D' M' H' hR (f1.trans g) rv⟩⟩
/-- a made thing freezes -/
def RFr (d : Dat) (M : MM) : Dat → MM → Prop := fun d' m => ∃ a o, d' = .ptr a ∧ M a = none ∧ m = M.set a o ∧ d = o.dat
theorem RX.freeze (h : RX X T Γ M e (RFr d M1)) : DX X T Γ M e d M1 := pe_w h fun σ H Q ⟨D, s, l, kk⟩ => ⟨D, s, l, fun v d' D' M' H' ⟨a, o, e1, e2, e3, e4⟩ g rv => by
  subst e1 e3 e4
  cases rv
  obtain ⟨D2, g2, r2⟩ := g.sat.freeze MM.set_same
  rw [MM.del_set e2] at g2
  exact kk _ _ _ (g.trans g2) r2⟩
/-! own operators -/
theorem dx_shlO (hc : PySem.W.selfFirst X.K C = true) (hs : PySem.W.findIn X.K (.ref C) "__lshift__" = some (some (.ref g))) (hf : PySem.W.isFn X.K (.ref g) = true) (hr' : PySem.W.findIn X.K (.ref C) "__rlshift__" = some none)
    {fo ro : Option Value} (h1 : PySem.W.findIn X.K (.type "int") "__lshift__" = some fo) (h2 : PySem.W.findIn X.K (.type "int") "__rlshift__" = some ro) (hsub : PySem.W.subIn X.K (.type "int") (.ref C) = some false)
    (F : FnR X.prog X.w X.K X.mg X.base CX0 k g (spD X.K T P)) (hr : Room k X.A) (ha : DX X T Γ M a (.ins C fs) M1) (hb : DX X T Γ M1 b (.int j) M2) (hp : P [.ins C fs, .int j] M2 (Is d M3)) : DX X T Γ M (.BinOp a .LShift b pos) d M3 :=
  dx_bin (Lo.op_shlOwn (E := E0) hc hs hf hr' h1 h2 hsub F hr pass0) ha hb fun D H x y Q s r1 r2 kk => by
    cases r1 with | @ins a1 _ dx fs' _ e1 q1 =>
    cases r2
    exact ⟨a1, dx, fs', j, rfl, rfl, s.ex _ _ e1, spD_of s (.cons (.ins e1 q1) (.cons .at .nil)) hp fun v d M' D' H' ⟨e1, e2⟩ g rv => by subst e1 e2; exact kk v D' H' g rv⟩
theorem dx_ixO (hs : PySem.W.findIn X.K (.ref C) "__getitem__" = some (some (.ref g))) (hf : PySem.W.isFn X.K (.ref g) = true) (hfi : PySem.W.fnIn X.K g = true) (F : FnR X.prog X.w X.K X.mg X.base CX0 k g (spD X.K T P)) (hr : Room (k + 1) X.A)
    (ha : DX X T Γ M a d1 M1) (hb : DX X T Γ M1 b d2 M2) (hi : (∃ fs, d1 = .ins C fs) ∨ ∃ p fs, d1 = .ptr p ∧ M2 p = some (.mi C fs)) (hp : P [d1, d2] M2 (Is d M3)) (hsl : ∀ (a : Addr) (v : Value), subscripted b true (.ref a) v = runValue (.builtin "lifetime.subscript" ⟨[.ref a, v], []⟩) := by intro _ _; with_unfolding_all rfl) : DX X T Γ M (.Subscript a b pos) d M3 :=
  pe_w (Lo.pe_ixO (E := E0) hs hf hfi F hr pass0 (fun _ _ _ _ z => z) ha hb hsl) fun σ H Q ⟨D, s, l, kk⟩ => ⟨D, s, l, fun x D1 H1 f1 r1 => ⟨D1, f1.sat, l.mono f1.ex, fun y D2 H2 f2 r2 => by
    have : ∃ a dx fs, x = .ref a ∧ H2 a = some (.ins C dx fs) := by
      rcases hi with ⟨fs, e⟩ | ⟨p, fs, e, hm⟩
      · subst e
        cases r1 with | @ins a _ dx fs' _ h1 q1 => exact ⟨a, dx, fs', rfl, f2.sat.ex _ _ (f2.ex _ _ h1)⟩
      · subst e
        cases r1
        obtain ⟨dx, fs', h1, q1⟩ := (f2.sat.mu _ _ hm).2
        exact ⟨p, dx, fs', rfl, h1⟩
    obtain ⟨a1, dx, fs, ev, ha⟩ := this
    exact ⟨a1, dx, fs, ev, ha, spD_of f2.sat (.cons (r1.mono f2.ex) (.cons r2 .nil)) hp fun v d M' D' H' ⟨e1, e2⟩ g rv => by subst e1 e2; exact kk v D' H' ((f1.trans f2).trans g) rv⟩⟩⟩
theorem dx_lenO {n : Nat} (hm : X.mg "len" = none) (hs : PySem.W.findIn X.K (.ref C) "__len__" = some (some (.ref g))) (hf : PySem.W.isFn X.K (.ref g) = true) (F : FnR X.prog X.w X.K X.mg X.base CX0 k g (spD X.K T P)) (hr : Room (k + 1) X.A) (ha : DX X T Γ M e d1 M1)
    (hi : (∃ fs, d1 = .ins C fs) ∨ ∃ p fs, d1 = .ptr p ∧ M1 p = some (.mi C fs)) (hp : P [d1] M1 (Is (.int n) M1)) (hn : n ≤ 1000000) (hg : Gl X "len" := by rfl) (he : starEach [e] X.env = (false, eval e X.env) :: starEach [] X.env := by rfl) : DX X T Γ M (.Call (.Name "len" p1) [e] [] pos) (.int n) M1 :=
  dx_callB (Lo.call_lenO (E := E0) hs hf F hr (fun _ _ _ _ z => z)) hm boot_len (ax_cons ha ax_nil he) (fun D H vs Q s r kk => by
    obtain ⟨v, ev, rv⟩ := reps1 r
    have : ∃ a dx fs, v = .ref a ∧ H a = some (.ins C dx fs) := by
      rcases hi with ⟨fs, e⟩ | ⟨p, fs, e, hm⟩
      · subst e
        cases rv with | @ins a _ dx fs' _ h1 q1 => exact ⟨a, dx, fs', rfl, s.ex _ _ h1⟩
      · subst e
        cases rv
        obtain ⟨dx, fs', h1, q1⟩ := (s.mu _ _ hm).2
        exact ⟨p, dx, fs', rfl, h1⟩
    obtain ⟨a1, dx, fs, e1, ha1⟩ := this
    subst ev e1
    refine ⟨a1, dx, fs, rfl, ha1, spD_of s (.cons rv .nil) hp fun v d M' D' H' ⟨e1, e2⟩ g rv => ?_⟩
    subst e1 e2
    cases rv
    exact ⟨n, rfl, by omega, by omega, kk _ D' H' g .at⟩) hg (he := he)
end
end Da
end
section
set_option autoImplicit false
/-! Walks, comprehensions, targets, statements over data. -/
namespace Da
open PySem PySem.Spec PyProof.Rows L2 StX LamX
/-- n items, the i-th xs i -/
structure ItD (K : PySem.W.Frag) (T : TL) (J : It) (n : Nat) (D0 : Hp) (xs : Nat → Dat) : Prop where
  go : ∀ i D M H, Ex D0 D → Sat K T D M H → i < n → J.go i H
  yld : ∀ i D M H, Ex D0 D → Sat K T D M H → i < n → ∀ x H', J.yld i H x H' → ∃ D', Fw K T M D H M D' H' ∧ Rep K D' x (xs i)
  stop : ∀ D M H, Ex D0 D → Sat K T D M H → J.stop n H
def tI (K : PySem.W.Frag) (T : TL) (Γ : Gm) (M : MM) (n : Nat) (xs : Nat → Dat) (M' : MM) : TI := fun σ H R => ∃ D, Sat K T D M H ∧ Sl K D σ Γ ∧ ∀ J D' H', Fw K T M D H M' D' H' → ItD K T J n D' xs → R J H'
abbrev IX (X : Cx) (T : TL) (Γ : Gm) (M : MM) (tg iter : Expr) (n : Nat) (xs : Nat → Dat) (M' : MM) : Prop := PI X tg iter (tI X.K T Γ M n xs M')
theorem pi_w {X : Cx} {tg iter : Expr} {t t' : TI} (h : PI X tg iter t) (w : ∀ σ H R, t' σ H R → t σ H R) : PI X tg iter t' := ⟨fun pins s σ H R I q => h.run pins s σ H R I (w _ _ _ q)⟩
section
variable {X : Cx} {T : TL} {Γ : Gm} {M M1 M2 M3 : MM} {e a b c tg : Expr} {es : List Expr} {d : Dat} {ds : List Dat} {pos p tpos : Pos} {i j : Int}
theorem ix_list (h : DX X T Γ M e (.lst ds) M1) : IX X T Γ M tg e ds.length (fun i => ds.getD i .non) M1 :=
  pi_w (pi_list h) fun σ H R ⟨D, s, l, k⟩ => ⟨D, s, l, fun v D1 H1 f1 r1 => by
    cases r1 with | @lst a1 xs _ e1 q1 =>
    refine ⟨a1, rfl, ⟨xs, SqL.of (f1.sat.ex _ _ e1)⟩, k _ D1 H1 f1 ⟨fun i D M H ex s hi => ?_, fun i D M H ex s hi x H' hy => ?_, fun D M H ex s => ?_⟩⟩
    · have hx := q1.length
      exact ⟨xs, xs[i]'(by omega), SqL.of (s.ex _ _ (ex _ _ e1)), by simp [hx, hi]⟩
    · obtain ⟨e2, h2⟩ := hy
      subst e2
      have hx := q1.length
      have := h2 xs (SqL.of (s.ex _ _ (ex _ _ e1)))
      obtain ⟨d', hd', rd⟩ := q1.get' this
      exact ⟨D, Fw.refl s, by rw [List.getD_eq_getElem?_getD, hd']; exact rd.mono ex⟩
    · exact ⟨xs, SqL.of (s.ex _ _ (ex _ _ e1)), by rw [q1.length]; exact Nat.le_refl _⟩⟩
theorem ix_tup' (h : DX X T Γ M e (.tup ds) M1) : IX X T Γ M tg e ds.length (fun i => ds.getD i .non) M1 :=
  pi_w (pi_tup h) fun σ H R ⟨D, s, l, k⟩ => ⟨D, s, l, fun v D1 H1 f1 r1 => by
    cases r1 with | @tup a1 xs _ e1 q1 =>
    refine ⟨a1, rfl, ⟨xs, SqT.of (f1.sat.ex _ _ e1)⟩, k _ D1 H1 f1 ⟨fun i D M H ex s hi => ?_, fun i D M H ex s hi x H' hy => ?_, fun D M H ex s => ?_⟩⟩
    · have hx := q1.length
      exact ⟨xs, xs[i]'(by omega), SqT.of (s.ex _ _ (ex _ _ e1)), by simp [hx, hi]⟩
    · obtain ⟨e2, h2⟩ := hy
      subst e2
      have := h2 xs (SqT.of (s.ex _ _ (ex _ _ e1)))
      obtain ⟨d', hd', rd⟩ := q1.get' this
      exact ⟨D, Fw.refl s, by rw [List.getD_eq_getElem?_getD, hd']; exact rd.mono ex⟩
    · exact ⟨xs, SqT.of (s.ex _ _ (ex _ _ e1)), by rw [q1.length]; exact Nat.le_refl _⟩⟩
theorem ix_enum {elts : List Expr} {kk : Nat} (hm : X.mg "enumerate" = none) (h : DX X T Γ M e (.lst ds) M1) (hg : Gl X "enumerate" := by rfl) (hs : starEach [e] X.env = (false, eval e X.env) :: starEach [] X.env := by rfl) : IX X T Γ M (.Tuple elts kk tpos) (.Call (.Name "enumerate" p) [e] [] pos) ds.length (fun i => .tup [.int i, ds.getD i .non]) M1 :=
  pi_w (pi_enum hg hm (ax_cons h ax_nil hs) hs) fun σ H R ⟨D, s, l, k⟩ => ⟨D, s, l, fun vs D1 H1 f1 r1 => by
    obtain ⟨v, ev, rv⟩ := reps1 r1
    cases rv with | @lst a1 xs _ e1 q1 =>
    subst ev
    refine ⟨a1, xs, rfl, SqL.of (f1.sat.ex _ _ e1), k _ D1 H1 f1 ⟨fun i D M H ex s hi => ?_, fun i D M H ex s hi x H' hy => ?_, fun D M H ex s => ?_⟩⟩
    · have hx := q1.length
      exact ⟨xs, xs[i]'(by omega), SqL.of (s.ex _ _ (ex _ _ e1)), by simp [hx, hi]⟩
    · obtain ⟨p, y, e2, hp, e3, h2⟩ := hy
      subst e2 e3
      have := h2 xs (SqL.of (s.ex _ _ (ex _ _ e1)))
      obtain ⟨d', hd', rd⟩ := q1.get' this
      have g := s.new hp (.tup [.int (i : Nat), y])
      exact ⟨_, g, .tup upd_same (.cons .at (.cons (by rw [List.getD_eq_getElem?_getD, hd']; exact (rd.mono ex).mono g.ex) .nil))⟩
    · exact ⟨xs, SqL.of (s.ex _ _ (ex _ _ e1)), by rw [q1.length]; exact Nat.le_refl _⟩⟩
theorem ix_enumT {elts : List Expr} {kk : Nat} (hm : X.mg "enumerate" = none) (h : DX X T Γ M e (.tup ds) M1) (hg : Gl X "enumerate" := by rfl) (hs : starEach [e] X.env = (false, eval e X.env) :: starEach [] X.env := by rfl) : IX X T Γ M (.Tuple elts kk tpos) (.Call (.Name "enumerate" p) [e] [] pos) ds.length (fun i => .tup [.int i, ds.getD i .non]) M1 :=
  pi_w (Lo.pi_enumT hg hm (ax_cons h ax_nil hs) hs) fun σ H R ⟨D, s, l, k⟩ => ⟨D, s, l, fun vs D1 H1 f1 r1 => by
    obtain ⟨v, ev, rv⟩ := reps1 r1
    cases rv with | @tup a1 xs _ e1 q1 =>
    subst ev
    refine ⟨a1, xs, rfl, SqT.of (f1.sat.ex _ _ e1), k _ D1 H1 f1 ⟨fun i D M H ex s hi => ?_, fun i D M H ex s hi x H' hy => ?_, fun D M H ex s => ?_⟩⟩
    · have hx := q1.length
      exact ⟨xs, xs[i]'(by omega), SqT.of (s.ex _ _ (ex _ _ e1)), by simp [hx, hi]⟩
    · obtain ⟨p, y, e2, hp, e3, h2⟩ := hy
      subst e2 e3
      have := h2 xs (SqT.of (s.ex _ _ (ex _ _ e1)))
      obtain ⟨d', hd', rd⟩ := q1.get' this
      have g := s.new hp (.tup [.int (i : Nat), y])
      exact ⟨_, g, .tup upd_same (.cons .at (.cons (by rw [List.getD_eq_getElem?_getD, hd']; exact (rd.mono ex).mono g.ex) .nil))⟩
    · exact ⟨xs, SqT.of (s.ex _ _ (ex _ _ e1)), by rw [q1.length]; exact Nat.le_refl _⟩⟩
theorem itd_range {K : PySem.W.Frag} {lo : Int} {n : Nat} {D0 : Hp} : ItD K T (Itr lo n) n D0 (fun i => .int (lo + i)) :=
  ⟨fun _ _ _ _ _ _ h => h, fun i D M H ex s hi x H' hy => by obtain ⟨e1, e2⟩ := hy; subst e1 e2; exact ⟨D, Fw.refl s, .at⟩, fun _ _ _ _ _ => Nat.le_refl _⟩
theorem ix_range1 (hm : X.mg "range" = none) (h : DX X T Γ M e (.int j) M1) (h1 : -(2 ^ 62) ≤ j) (h2 : j < 2 ^ 62) (hg : Gl X "range" := by rfl) (hs : starEach [e] X.env = (false, eval e X.env) :: starEach [] X.env := by rfl) : IX X T Γ M tg (.Call (.Name "range" p) [e] [] pos) j.toNat (fun i => .int (0 + i)) M1 :=
  pi_w (pi_range1 hg hm (ax_cons h ax_nil hs) hs) fun σ H R ⟨D, s, l, k⟩ => ⟨D, s, l, fun vs D1 H1 f1 r1 => by
    obtain ⟨v, ev, rv⟩ := reps1 r1
    cases rv
    exact ⟨j, ev, h1, h2, k _ D1 H1 f1 itd_range⟩⟩
theorem ix_range2 (hm : X.mg "range" = none) (ha : DX X T Γ M a (.int i) M1) (hb : DX X T Γ M1 b (.int j) M2) (h1 : -(2 ^ 62) ≤ i) (h2 : i < 2 ^ 62) (h3 : -(2 ^ 62) ≤ j) (h4 : j < 2 ^ 62) (hg : Gl X "range" := by rfl)
    (hs : starEach [a, b] X.env = (false, eval a X.env) :: starEach [b] X.env := by rfl) (hs2 : starEach [b] X.env = (false, eval b X.env) :: starEach [] X.env := by rfl) : IX X T Γ M tg (.Call (.Name "range" p) [a, b] [] pos) (j - i).toNat (fun m => .int (i + m)) M2 :=
  pi_w (pi_range2 hg hm (ax_cons ha (ax_cons hb ax_nil hs2) hs) (by rw [hs, hs2]; rfl) hs2) fun σ H R ⟨D, s, l, k⟩ => ⟨D, s, l, fun vs D1 H1 f1 r1 => by
    obtain ⟨v, w, ev, rv, rw'⟩ := reps2 r1
    cases rv
    cases rw'
    exact ⟨i, j, ev, ⟨h1, h2, h3, h4⟩, k _ D1 H1 f1 itd_range⟩⟩
theorem ix_down (hm : X.mg "range" = none) (ha : DX X T Γ M a (.int i) M1) (hb : DX X T Γ M1 b (.int j) M2) (hc : DX X T Γ M2 c (.int (-1)) M3) (h1 : -(2 ^ 62) ≤ i) (h2 : i < 2 ^ 62) (h3 : -(2 ^ 62) ≤ j) (h4 : j < 2 ^ 62) (hg : Gl X "range" := by rfl)
    (hs : starEach [a, b, c] X.env = (false, eval a X.env) :: starEach [b, c] X.env := by rfl) (hs2 : starEach [b, c] X.env = (false, eval b X.env) :: starEach [c] X.env := by rfl) (hs3 : starEach [c] X.env = (false, eval c X.env) :: starEach [] X.env := by rfl)
    (hpl : (backTo pos (starEach [b, c] X.env)).any (·.1) = false := by rfl) : IX X T Γ M tg (.Call (.Name "range" p) [a, b, c] [] pos) (i - j).toNat (fun m => .int (i - m)) M3 :=
  pi_w (pi_range3 hg hm (ax_cons ha (ax_cons hb (ax_cons hc ax_nil hs3) hs2) hs) hs hpl) fun σ H R ⟨D, s, l, k⟩ => ⟨D, s, l, fun vs D1 H1 f1 r1 => by
    obtain ⟨v, w, z, ev, rv, rw', rz⟩ := reps3 r1
    cases rv
    cases rw'
    cases rz
    refine ⟨i, j, -1, _, ev, RgC.neg h1 h2 h3 h4, k _ D1 H1 f1 ⟨fun _ _ _ _ _ _ h => h, fun m D M H ex s hi x H' hy => ?_, fun _ _ _ _ _ => Nat.le_refl _⟩⟩
    obtain ⟨e1, e2⟩ := hy
    subst e1 e2
    exact ⟨D, Fw.refl s, by rw [show i + (m : Int) * -1 = i - m by omega]; exact .at⟩⟩
end
/-! targets -/
def tG (K : PySem.W.Frag) (T : TL) (Γ : Gm) (M : MM) (d : Dat) (Γ' : Gm) (M' : MM) : TG := fun v σ H Q => ∃ D, Sat K T D M H ∧ Sl K D σ Γ ∧ Rep K D v d ∧ ∀ σ' D' H', Fw K T M D H M' D' H' → Sl K D' σ' Γ' → Q σ' H'
def tGs (K : PySem.W.Frag) (T : TL) (Γ : Gm) (M : MM) (ds : List Dat) (Γ' : Gm) (M' : MM) : TGs := fun vs σ H Q => ∃ D, Sat K T D M H ∧ Sl K D σ Γ ∧ Reps K D vs ds ∧ ∀ σ' D' H', Fw K T M D H M' D' H' → Sl K D' σ' Γ' → Q σ' H'
abbrev GX (X : Cx) (T : TL) (Γ : Gm) (M : MM) (tg : Expr) (d : Dat) (Γ' : Gm) (M' : MM) : Prop := PG X tg (tG X.K T Γ M d Γ' M')
abbrev GXs (X : Cx) (T : TL) (Γ : Gm) (M : MM) (ts : List Expr) (ds : List Dat) (Γ' : Gm) (M' : MM) : Prop := PGs X ts (tGs X.K T Γ M ds Γ' M')
theorem pg_w {X : Cx} {tg : Expr} {t t' : TG} (h : PG X tg t) (w : ∀ v σ H Q, t' v σ H Q → t v σ H Q) : PG X tg t' := ⟨fun pins s σ H v u Q I r q => h.run pins s σ H v u Q I r (w _ _ _ _ q)⟩
theorem pgs_w {X : Cx} {ts : List Expr} {t t' : TGs} (h : PGs X ts t) (w : ∀ v σ H Q, t' v σ H Q → t v σ H Q) : PGs X ts t' := ⟨fun pins s σ H v u Q I r q => h.run pins s σ H v u Q I r (w _ _ _ _ q)⟩
section
variable {X : Cx} {T : TL} {Γ Γ1 Γ2 Γ3 : Gm} {M M1 M2 M3 : MM} {e o tg : Expr} {es : List Expr} {d : Dat} {ds : List Dat} {pos p : Pos} {x f : Str} {C q : Addr} {fs : List (Str × Dat)}
theorem gx_name (i : Nat) (hN : X.N.Nodup) (hi : X.N[i]? = some x) (hx : Loc X.env.scope x) (hf : X.fn x = true ∨ X.env.scope.names.lookup x = some .local := by first | exact .inl rfl | exact .inr rfl | assumption) : GX X T Γ M (.Name x pos) d (Γ.set i (some d)) M :=
  pg_w (pg_name hN hi hx hf) fun v σ H Q ⟨D, s, l, r, k⟩ => k _ D H (Fw.refl s) (l.set r)
theorem gxs_nil : GXs X T Γ M [] [] Γ M := pgs_w pgs_nil fun vs σ H Q ⟨D, s, l, r, k⟩ => by cases r; exact ⟨rfl, k _ D H (Fw.refl s) l⟩
theorem gxs_cons (h1 : GX X T Γ M e d Γ1 M1) (h2 : GXs X T Γ1 M1 es ds Γ2 M2) (hs : (assignEach (e :: es) X.env).map (·.2) = assign e X.env :: (assignEach es X.env).map (·.2) := by rfl) : GXs X T Γ M (e :: es) (d :: ds) Γ2 M2 :=
  pgs_w (pgs_cons h1 h2 hs) fun vs σ H Q ⟨D, s, l, r, k⟩ => by
    cases r with | cons r1 r2 =>
    exact ⟨_, _, rfl, D, s, l, r1, fun σ1 D1 H1 f1 l1 => ⟨D1, f1.sat, l1, r2.mono f1.ex, fun σ2 D2 H2 f2 l2 => k σ2 D2 H2 (f1.trans f2) l2⟩⟩
theorem gx_tup {k : Nat} (hc : X.calm = true) (h : GXs X T Γ M es ds Γ1 M1) (hn : (assignEach es X.env).length = ds.length := by rfl) (hst : (assignEach es X.env).findIdx? (·.1) = none := by rfl) : GX X T Γ M (.Tuple es k pos) (.tup ds) Γ1 M1 :=
  pg_w (pg_tup hc h hn hst) fun v σ H Q ⟨D, s, l, r, k⟩ => by
    cases r with | @tup a xs _ h1 q1 =>
    exact ⟨a, xs, rfl, SqT.of (s.ex _ _ h1), q1.length, D, s, l, q1, k⟩
theorem gx_unl {k : Nat} (hc : X.calm = true) (h : GXs X T Γ M es ds Γ1 M1) (hn : (assignEach es X.env).length = ds.length := by rfl) (hst : (assignEach es X.env).findIdx? (·.1) = none := by rfl) : GX X T Γ M (.Tuple es k pos) (.lst ds) Γ1 M1 :=
  pg_w (pg_unl hc h hn hst) fun v σ H Q ⟨D, s, l, r, k⟩ => by
    cases r with | @lst a xs _ h1 q1 =>
    exact ⟨a, xs, rfl, SqL.of (s.ex _ _ h1), q1.length, D, s, l, q1, k⟩
theorem gx_fld (cl : Cls X.K C) (na : NoAttr X.K C f) (ho : DX X T Γ M o (.ptr q) M1) (hm : M1 q = some (.mi C fs)) (hl : fs.length < 900) : GX X T Γ M (.Attribute o f pos) d Γ (M1.set q (.mi C (putD f d fs))) :=
  pg_w (Lo.pg_fld ho) fun v σ H Q ⟨D, s, l, r, k⟩ => ⟨D, s, l, fun x D1 H1 f1 r1 => by
    cases r1
    obtain ⟨dx, fs', h1, q1⟩ := (f1.sat.mu _ _ hm).2
    have hl' := q1.length
    have g := f1.sat.write (u := .ins C dx (putF f v fs')) (mo := .mi C (putD f d fs)) hm ⟨dx, _, upd_same, RepF.put (r.mono f1.ex) q1⟩
    exact ⟨q, C, dx, fs', rfl, h1, cl, na, by omega, k _ _ _ (f1.trans g) ((l.mono f1.ex).mono g.ex)⟩⟩
/-- l[i] = v of a mutable list -/
theorem gx_sub {i : Expr} {j : Int} {n : Nat} (ho : DX X T Γ M o (.ptr q) M1) (hi : DX X T Γ M1 i (.int j) M2) (hm : M2 q = some (.ml ds)) (hj : ixN ds.length j = some n)
    (ha : ∀ v, assign (.Subscript o i pos) X.env v = (do
      let ov ← holding [v] (eval o X.env)
      let iv ← holding [v, ov] (eval i X.env)
      standAt pos
      holding [v, ov, iv] (setItem ov iv v)
      release [v, ov, iv] []) := by intro _; rfl) : GX X T Γ M (.Subscript o i pos) d Γ (M2.set q (.ml (ds.set n d))) :=
  pg_w (pg_sub ho hi set_list ha) fun v σ H Q ⟨D, s, l, r, k⟩ => ⟨D, s, l, fun x D1 H1 f1 r1 => ⟨D1, f1.sat, l.mono f1.ex, fun y D2 H2 f2 r2 => by
    cases r1
    cases r2
    obtain ⟨xs, h1, q1⟩ := (f2.sat.mu _ _ hm).2
    have g := f2.sat.write (u := .lst (xs.set n v)) (mo := .ml (ds.set n d)) hm ⟨_, upd_same, q1.set n ((r.mono f1.ex).mono f2.ex)⟩
    exact ⟨q, xs, j, n, rfl, rfl, h1, by rw [q1.length]; exact hj, k _ _ _ ((f1.trans f2).trans g) (((l.mono f1.ex).mono f2.ex).mono g.ex)⟩⟩⟩
end
/-! statements -/
inductive Out where
  | nx (Γ : Gm) (M : MM)
  | rt (d : Dat) (M : MM)
def tS (K : PySem.W.Frag) (T : TL) (Γ : Gm) (M : MM) (R : Out → Prop) : TS := fun E σ H => ∃ D, Sat K T D M H ∧ Sl K D σ Γ ∧
  (∀ σ' Γ' M' D' H', R (.nx Γ' M') → Fw K T M D H M' D' H' → Sl K D' σ' Γ' → E.nx σ' H') ∧ ∀ v d M' D' H', R (.rt d M') → Fw K T M D H M' D' H' → Rep K D' v d → E.rt v H'
abbrev HS (X : Cx) (T : TL) (Γ : Gm) (M : MM) (ss : List Stmt) (R : Out → Prop) : Prop := PSs X ss (tS X.K T Γ M R)
def tAny (X : Cx) (ss : List Stmt) : TS := fun E σ H => ∃ t, PSs X ss t ∧ t E σ H
theorem pss_any {X : Cx} {ss : List Stmt} : PSs X ss (tAny X ss) := ⟨fun pins s σ H E I ⟨t, h, q⟩ => h.run pins s σ H E I q⟩
def tAnyG (X : Cx) (tg : Expr) : TG := fun v σ H Q => ∃ t, PG X tg t ∧ t v σ H Q
theorem pg_any {X : Cx} {tg : Expr} : PG X tg (tAnyG X tg) := ⟨fun pins s σ H v u Q I r ⟨t, h, q⟩ => h.run pins s σ H v u Q I r q⟩
/-- what follows -/
def thenR (X : Cx) (T : TL) (ss : List Stmt) (R : Out → Prop) : Out → Prop
  | .nx Γ M => HS X T Γ M ss R
  | .rt d M => R (.rt d M)
def loopR (J : Gm → MM → Prop) (R : Out → Prop) : Out → Prop
  | .nx Γ M => J Γ M
  | .rt d M => R (.rt d M)
section
variable {X : Cx} {T : TL} {Γ Γ1 Γ2 Γ3 : Gm} {M M1 M2 M3 : MM} {e o tg c iter : Expr} {es : List Expr} {d : Dat} {ds : List Dat} {pos p : Pos} {x f y : Str} {C q : Addr} {fs : List (Str × Dat)} {st : Stmt} {ss body els : List Stmt} {R R1 : Out → Prop}
theorem hs_nil (h : R (.nx Γ M)) : HS X T Γ M [] R := pss_w pss_nil fun E σ H ⟨D, s, l, k, _⟩ => k σ Γ M D H h (Fw.refl s) l
theorem hs_imp (h : HS X T Γ M ss R1) (w : ∀ o, R1 o → R o) : HS X T Γ M ss R := pss_w h fun E σ H ⟨D, s, l, k1, k2⟩ => ⟨D, s, l, fun σ' Γ' M' D' H' r => k1 σ' Γ' M' D' H' (w _ r), fun v d M' D' H' r => k2 v d M' D' H' (w _ r)⟩
/-- the rest, from where it is reached -/
theorem hs_rest {E : Ends} {σ1 : L2.St} {D H D1 H1 : Hp} (f : Fw X.K T M D H M1 D1 H1) (l1 : Sl X.K D1 σ1 Γ1) (h : HS X T Γ1 M1 ss R)
    (k1 : ∀ σ' Γ' M' D' H', R (.nx Γ' M') → Fw X.K T M D H M' D' H' → Sl X.K D' σ' Γ' → E.nx σ' H') (k2 : ∀ v d M' D' H', R (.rt d M') → Fw X.K T M D H M' D' H' → Rep X.K D' v d → E.rt v H') : tAny X ss E σ1 H1 :=
  ⟨_, h, D1, f.sat, l1, fun σ' Γ' M' D' H' r g => k1 σ' Γ' M' D' H' r (f.trans g), fun v d M' D' H' r g => k2 v d M' D' H' r (f.trans g)⟩
theorem hs_asg (he : DX X T Γ M e d M1) (hg : GX X T Γ M1 tg d Γ2 M2) (h : HS X T Γ2 M2 ss R) (hs : swapsWithSole [tg] e pos.line X.env = pure false := by rfl) (hw : swappedStores [tg] e X.env = pure none := by rfl)
    (h1 : (assignEach [tg] X.env).map (·.2) = [assign tg X.env] := by rfl) : HS X T Γ M (.Assign [tg] e pos :: ss) R :=
  pss_w (pss_cons (ps_asg he hg hs hw h1) pss_any) fun E σ H ⟨D, s, l, k1, k2⟩ => ⟨D, s, l, fun v D1 H1 f1 r1 => ⟨D1, f1.sat, l.mono f1.ex, r1, fun σ2 D2 H2 f2 l2 => hs_rest (f1.trans f2) l2 h k1 k2⟩⟩
theorem hs_set (i : Nat) (hN : X.N.Nodup) (hi : X.N[i]? = some x) (hx : Loc X.env.scope x) (he : DX X T Γ M e d M1) (h : HS X T (Γ.set i (some d)) M1 ss R) (hs : swapsWith e (some (.Name x p)) pos.line X.env = pure false := by rfl)
    (hf : X.fn x = true ∨ X.env.scope.names.lookup x = some .local := by first | exact .inl rfl | exact .inr rfl | assumption) : HS X T Γ M (.Assign [.Name x p] e pos :: ss) R :=
  pss_w (pss_cons (ps_set hN hi hx he hs hf) pss_any) fun E σ H ⟨D, s, l, k1, k2⟩ => ⟨D, s, l, fun v D1 H1 f1 r1 => hs_rest f1 ((l.mono f1.ex).set r1) h k1 k2⟩
theorem hs_setR (i : Nat) (hN : X.N.Nodup) (hi : X.N[i]? = some x) (hx : Loc X.env.scope x) {Rx : Dat → MM → Prop} (he : RX X T Γ M e Rx) (h : ∀ d M1, Rx d M1 → HS X T (Γ.set i (some d)) M1 ss R) (hs : swapsWith e (some (.Name x p)) pos.line X.env = pure false := by rfl)
    (hf : X.fn x = true ∨ X.env.scope.names.lookup x = some .local := by first | exact .inl rfl | exact .inr rfl | assumption) : HS X T Γ M (.Assign [.Name x p] e pos :: ss) R :=
  pss_w (pss_cons (ps_set hN hi hx he hs hf) pss_any) fun E σ H ⟨D, s, l, k1, k2⟩ => ⟨D, s, l, fun v d D1 M1 H1 hr f1 r1 => hs_rest f1 ((l.mono f1.ex).set r1) (h d M1 hr) k1 k2⟩
theorem hs_expr (he : DX X T Γ M e d M1) (h : HS X T Γ M1 ss R) (hs : swapsWith e none pos.line X.env = pure false := by rfl) : HS X T Γ M (.Expr e pos :: ss) R :=
  pss_w (pss_cons (ps_expr he hs) pss_any) fun E σ H ⟨D, s, l, k1, k2⟩ => ⟨D, s, l, fun v D1 H1 f1 r1 => hs_rest f1 (l.mono f1.ex) h k1 k2⟩
theorem hs_ret (he : DX X T Γ M e d M1) (h : R (.rt d M1)) : HS X T Γ M (.Return (some e) pos :: ss) R :=
  pss_w (pss_cons (ps_ret he) (pss_never (sts := ss))) fun E σ H ⟨D, s, l, k1, k2⟩ => ⟨D, s, l, fun v D1 H1 f1 r1 => k2 v d M1 D1 H1 h f1 r1⟩
theorem hs_retR {Rx : Dat → MM → Prop} (he : RX X T Γ M e Rx) (h : ∀ d M1, Rx d M1 → R (.rt d M1)) : HS X T Γ M (.Return (some e) pos :: ss) R :=
  pss_w (pss_cons (ps_ret he) (pss_never (sts := ss))) fun E σ H ⟨D, s, l, k1, k2⟩ => ⟨D, s, l, fun v d D1 M1 H1 hr f1 r1 => k2 v d M1 D1 H1 (h d M1 hr) f1 r1⟩
theorem hs_if {b : Bool} (hc : TX X T Γ M c b M1) (h1 : b = true → HS X T Γ M1 body (thenR X T ss R)) (h2 : b = false → HS X T Γ M1 els (thenR X T ss R)) : HS X T Γ M (.If c body els pos :: ss) R := by
  refine pss_w (pss_cons (ps_if hc pss_any pss_any) (pss_any (ss := ss))) fun E σ H ⟨D, s, l, k1, k2⟩ => ⟨D, s, l, fun D1 H1 f1 => ?_⟩
  have fin : ∀ (bd : List Stmt), HS X T Γ M1 bd (thenR X T ss R) → tAny X bd { E with nx := tAny X ss E } σ H1 := fun bd hb => ⟨_, hb, D1, f1.sat, l.mono f1.ex, fun σ' Γ' M' D' H' r g l' => hs_rest (f1.trans g) l' r k1 k2, fun v d M' D' H' r g rv => k2 v d M' D' H' r (f1.trans g) rv⟩
  cases b with
  | true => exact ifT (fin _ (h1 rfl))
  | false => exact ifF (fin _ (h2 rfl))
theorem hs_ifT (hc : TX X T Γ M c true M1) (h1 : HS X T Γ M1 body (thenR X T ss R)) : HS X T Γ M (.If c body els pos :: ss) R := hs_if hc (fun _ => h1) fun z => nomatch z
/-- the else is empty, the test fails -/
theorem hs_ifF (hc : TX X T Γ M c false M1) (h : HS X T Γ M1 ss R) : HS X T Γ M (.If c body [] pos :: ss) R := hs_if hc (fun z => nomatch z) fun _ => hs_nil h
theorem hs_for {n : Nat} {xs : Nat → Dat} (hi : IX X T Γ M tg iter n xs M1) (I : Nat → Gm → MM → Prop) (h0 : I 0 Γ M1) (hb : ∀ i Γ' M', i < n → I i Γ' M' → ∃ Γ2 M2, GX X T Γ' M' tg (xs i) Γ2 M2 ∧ HS X T Γ2 M2 body (loopR (I (i + 1)) R))
    (hd : ∀ Γ' M', I n Γ' M' → HS X T Γ' M' ss R) (hc : X.calm = true) (hp : PassesOwn (model X.prog X.w) X.A X.env X.xe) (hs : ∀ x, foldedSetIterable iter X.env x = pure x := by intro _; rfl) : HS X T Γ M (.For tg iter body [] pos :: ss) R := by
  refine pss_w (pss_cons (ps_for hp hc hi (pg_any (tg := tg)) (pss_any (ss := body)) hs) (pss_any (ss := ss))) fun E σ H ⟨D, s, l, k1, k2⟩ => ⟨D, s, l, fun J D1 H1 f1 it => ?_⟩
  refine ⟨fun i m σ' H' => m = n - i ∧ i ≤ n ∧ ∃ Γ' M' D', I i Γ' M' ∧ Fw X.K T M D H M' D' H' ∧ Ex D1 D' ∧ Sl X.K D' σ' Γ', ⟨n, by simp, Nat.zero_le _, Γ, M1, D1, h0, f1, Ex.refl, l.mono f1.ex⟩, ?_⟩
  rintro i m σ' H' ⟨rfl, hle, Γ', M', D', hI, f, ex, l'⟩
  by_cases hlt : i < n
  · obtain ⟨Γ2, M2, hg, hbd⟩ := hb i Γ' M' hlt hI
    refine .inr ⟨it.go i D' M' H' ex f.sat hlt, fun σ4 H4 => ∃ Γ4 M4 D4, I (i + 1) Γ4 M4 ∧ Fw X.K T M D H M4 D4 H4 ∧ Ex D1 D4 ∧ Sl X.K D4 σ4 Γ4, fun σ4 H4 ⟨Γ4, M4, D4, z⟩ => ⟨n - (i + 1), by omega, rfl, hlt, Γ4, M4, D4, z⟩, fun v H2 hy => ?_⟩
    obtain ⟨D2, f2, rv⟩ := it.yld i D' M' H' ex f.sat hlt v H2 hy
    refine ⟨_, hg, D2, f2.sat, l'.mono f2.ex, rv, fun σ3 D3 H3 f3 l3 => ?_⟩
    have g := (f.trans f2).trans f3
    have ex3 : Ex D1 D3 := (ex.trans f2.ex).trans f3.ex
    exact ⟨_, hbd, D3, f3.sat, l3, fun σ4 Γ4 M4 D4 H4 r g4 l4 => ⟨Γ4, M4, D4, r, g.trans g4, ex3.trans g4.ex, l4⟩, fun v d M4 D4 H4 r g4 rv => k2 v d M4 D4 H4 r (g.trans g4) rv⟩
  · have e : i = n := by omega
    subst e
    exact .inl ⟨it.stop D' M' H' ex f.sat, hs_rest f l' (hd Γ' M' hI) k1 k2⟩
theorem hs_while (I : Nat → Gm → MM → Prop) (m0 : Nat) (h0 : I m0 Γ M) (hb : ∀ m Γ' M', I m Γ' M' → ∃ b M1, TX X T Γ' M' c b M1 ∧ (b = true → HS X T Γ' M1 body (loopR (fun Γ2 M2 => ∃ m', m' < m ∧ I m' Γ2 M2) R)) ∧ (b = false → HS X T Γ' M1 ss R))
    (hp : PassesOwn (model X.prog X.w) X.A X.env X.xe) : HS X T Γ M (.While c body [] pos :: ss) R := by
  have hcT : PT X c (fun σ H Q => ∃ t, PT X c t ∧ t σ H Q) := ⟨fun pins s σ H Q I ⟨t, h, q⟩ => h.run pins s σ H Q I q⟩
  refine pss_w (pss_cons (ps_while hp hcT (pss_any (ss := body))) (pss_any (ss := ss))) fun E σ H ⟨D, s, l, k1, k2⟩ => ?_
  refine ⟨fun m σ' H' => ∃ Γ' M' D', I m Γ' M' ∧ Fw X.K T M D H M' D' H' ∧ Sl X.K D' σ' Γ', ⟨m0, Γ, M, D, h0, Fw.refl s, l⟩, ?_⟩
  rintro m σ' H' ⟨Γ', M', D', hI, f, l'⟩
  obtain ⟨b, M1, hc, h1, h2⟩ := hb m Γ' M' hI
  refine ⟨_, hc, D', f.sat, l', fun D1 H1 f1 => ?_⟩
  cases b with
  | true =>
    refine ifT ⟨fun σ4 H4 => ∃ m', m' < m ∧ ∃ Γ4 M4 D4, I m' Γ4 M4 ∧ Fw X.K T M D H M4 D4 H4 ∧ Sl X.K D4 σ4 Γ4, fun σ4 H4 ⟨m', hm, z⟩ => ⟨m', hm, z⟩, ?_⟩
    exact ⟨_, h1 rfl, D1, f1.sat, l'.mono f1.ex, fun σ4 Γ4 M4 D4 H4 r g4 l4 => by
      obtain ⟨m', hm, hi⟩ := r
      exact ⟨m', hm, Γ4, M4, D4, hi, (f.trans f1).trans g4, l4⟩, fun v d M4 D4 H4 r g4 rv => k2 v d M4 D4 H4 r ((f.trans f1).trans g4) rv⟩
  | false => exact ifF (hs_rest (f.trans f1) (l'.mono f1.ex) (h2 rfl) k1 k2)
/-- o.f = e, o mutable -/
theorem hs_fld (cl : Cls X.K C) (na : NoAttr X.K C f) (he : DX X T Γ M e d M1) (ho : DX X T Γ M1 o (.ptr q) M2) (hm : M2 q = some (.mi C fs)) (hl : fs.length < 900) (h : HS X T Γ (M2.set q (.mi C (putD f d fs))) ss R)
    (hs : swapsWith e (some (.Attribute o f p)) pos.line X.env = pure false := by rfl) : HS X T Γ M (.Assign [.Attribute o f p] e pos :: ss) R :=
  pss_w (pss_cons (ps_fld ho he hs) pss_any) fun E σ H ⟨D, s, l, k1, k2⟩ => ⟨D, s, l, fun v D1 H1 f1 r1 => ⟨D1, f1.sat, l.mono f1.ex, fun w D2 H2 f2 r2 => by
    cases r2
    obtain ⟨dx, fs', h1, q1⟩ := (f2.sat.mu _ _ hm).2
    have hl' := q1.length
    have g := f2.sat.write (u := .ins C dx (putF f v fs')) (mo := .mi C (putD f d fs)) hm ⟨dx, _, upd_same, RepF.put (r1.mono f2.ex) q1⟩
    exact ⟨q, C, dx, fs', rfl, h1, cl, na, by omega, hs_rest ((f1.trans f2).trans g) (((l.mono f1.ex).mono f2.ex).mono g.ex) h k1 k2⟩⟩⟩
/-- x op= e of whole numbers -/
theorem hs_augA (i : Nat) {n m : Int} (hN : X.N.Nodup) (hi : X.N[i]? = some x) (hx : Loc X.env.scope x) (hg : Γ[i]? = some (some (.int n))) (he : DX X T Γ M e (.int m) M1) (h : HS X T (Γ.set i (some (.int (n + m)))) M1 ss R)
    (hf : X.fn x = true ∨ X.env.scope.names.lookup x = some .local := by first | exact .inl rfl | exact .inr rfl | assumption) : HS X T Γ M (.AugAssign (.Name x p) .Add e pos :: ss) R :=
  pss_w (pss_cons (ps_aug hN hi hx he ip_add hf) pss_any) fun E σ H ⟨D, s, l, k1, k2⟩ => by
    obtain ⟨v, hv, rv⟩ := l.2 i _ hg
    cases rv
    exact ⟨_, hv, D, s, l, fun w D1 H1 f1 r1 => ⟨n, m, rfl, r1.inv_at, hs_rest f1 ((l.mono f1.ex).set .at) h k1 k2⟩⟩
/-- x, y = a, b -/
theorem hs_par (i j : Nat) {a b : Expr} {px py pt : Pos} {kt k2 pt2} {da db : Dat} (hc : X.calm = true) (hN : X.N.Nodup) (hi : X.N[i]? = some x) (hj : X.N[j]? = some y) (hij : i ≠ j)
    (hx : X.env.scope.names.lookup x = some .local) (hy : X.env.scope.names.lookup y = some .local) (ha : AX X T Γ M [a, b] [da, db] M1) (h : HS X T ((Γ.set i (some da)).set j (some db)) M1 ss R)
    (hw : swappedStores [.Tuple [.Name x px, .Name y py] kt pt] (.Tuple [a, b] k2 pt2) X.env = pure (some [x, y]) := by rfl)
    (hs : swapsWithSole [.Tuple [.Name x px, .Name y py] kt pt] (.Tuple [a, b] k2 pt2) pos.line X.env = pure false := by rfl) : HS X T Γ M (.Assign [.Tuple [.Name x px, .Name y py] kt pt] (.Tuple [a, b] k2 pt2) pos :: ss) R :=
  pss_w (pss_cons (ps_par hc hN hi hj hij hx hy ha hw hs) pss_any) fun E σ H ⟨D, s, l, k1, k2⟩ => ⟨D, s, l, fun vs D1 H1 f1 r1 => by
    obtain ⟨v, w, ev, rv, rw'⟩ := reps2 r1
    exact ⟨v, w, ev, hs_rest f1 (((l.mono f1.ex).set rv).set rw') h k1 k2⟩⟩
theorem hs_par3 (i j k : Nat) {z : Str} {a b c' : Expr} {px py pz pt : Pos} {kt k2 pt2} {da db dc : Dat} (hc : X.calm = true) (hN : X.N.Nodup) (hi : X.N[i]? = some x) (hj : X.N[j]? = some y) (hk : X.N[k]? = some z) (hij : i ≠ j) (hik : i ≠ k) (hjk : j ≠ k)
    (hx : X.env.scope.names.lookup x = some .local) (hy : X.env.scope.names.lookup y = some .local) (hz : X.env.scope.names.lookup z = some .local) (ha : AX X T Γ M [a, b, c'] [da, db, dc] M1) (h : HS X T (((Γ.set i (some da)).set j (some db)).set k (some dc)) M1 ss R)
    (hw : swappedStores [.Tuple [.Name x px, .Name y py, .Name z pz] kt pt] (.Tuple [a, b, c'] k2 pt2) X.env = pure (some [x, y, z]) := by rfl)
    (hs : swapsWithSole [.Tuple [.Name x px, .Name y py, .Name z pz] kt pt] (.Tuple [a, b, c'] k2 pt2) pos.line X.env = pure false := by rfl) : HS X T Γ M (.Assign [.Tuple [.Name x px, .Name y py, .Name z pz] kt pt] (.Tuple [a, b, c'] k2 pt2) pos :: ss) R :=
  pss_w (pss_cons (ps_par3 hc hN hi hj hk hij hik hjk hx hy hz ha hw hs) pss_any) fun E σ H ⟨D, s, l, k1, k2⟩ => ⟨D, s, l, fun vs D1 H1 f1 r1 => by
    obtain ⟨v, w, u, ev, rv, rw', ru⟩ := reps3 r1
    exact ⟨v, w, u, ev, hs_rest f1 ((((l.mono f1.ex).set rv).set rw').set ru) h k1 k2⟩⟩
/-- a view: what stood mutable at q is frozen; the slots at which it stood hold its data -/
theorem hs_freeze {mo : MO} (hm : M q = some mo) (hΓ : Γ1.length = Γ.length) (hv : ∀ (i : Nat) (d : Dat), Γ1[i]? = some (some d) → Γ[i]? = some (some d) ∨ (Γ[i]? = some (some (.ptr q)) ∧ d = mo.dat)) (h : HS X T Γ1 (M.del q) ss R) : HS X T Γ M ss R :=
  pss_w (pss_any (ss := ss)) fun E σ H ⟨D, s, l, k1, k2⟩ => by
    obtain ⟨D', f, r⟩ := s.freeze hm
    refine hs_rest f ⟨by rw [l.1, hΓ], fun i d e => ?_⟩ h k1 k2
    rcases hv i d e with z | ⟨z, e2⟩
    · exact (l.mono f.ex).2 i d z
    · obtain ⟨v, hv, rv⟩ := l.2 i _ z
      cases rv
      subst e2
      exact ⟨_, hv, r⟩
/-- forget slots -/
theorem hs_weak (hΓ : Γ1.length = Γ.length) (hv : ∀ (i : Nat) (d : Dat), Γ1[i]? = some (some d) → Γ[i]? = some (some d)) (h : HS X T Γ1 M ss R) : HS X T Γ M ss R :=
  pss_w h fun E σ H ⟨D, s, l, k1, k2⟩ => ⟨D, s, ⟨by rw [l.1, hΓ], fun i d e => l.2 i d (hv i d e)⟩, k1, k2⟩
end
end Da
end
section
set_option autoImplicit false
/-! Comprehensions, methods of lists, dicts, isinstance, defs. -/
namespace Da
open PySem PySem.Spec PyProof.Rows L2 StX LamX
section
variable {K : PySem.W.Frag} {T : TL} {D : Hp} {σ : L2.St} {Γ : Gm}
theorem sl_wipe1 (l : Sl K D σ Γ) {j : Nat} (hj : Γ[j]? = some none) : Sl K D (wipe σ [j]) Γ := by
  refine ⟨by rw [wipe_length]; exact l.1, fun i d e => ?_⟩
  have n : j ≠ i := fun z => by subst z; rw [hj] at e; cases e
  show ∃ v, ((σ).set j none)[i]? = _ ∧ _
  rw [List.getElem?_set_ne n]
  exact l.2 i d e
theorem sl_wipe2 (l : Sl K D σ Γ) {j j2 : Nat} (hj : Γ[j]? = some none) (hj2 : Γ[j2]? = some none) : Sl K D (wipe σ [j, j2]) Γ := by
  refine ⟨by rw [wipe_length]; exact l.1, fun i d e => ?_⟩
  have n : j ≠ i := fun z => by subst z; rw [hj] at e; cases e
  have n2 : j2 ≠ i := fun z => by subst z; rw [hj2] at e; cases e
  show ∃ v, ((σ.set j2 none).set j none)[i]? = _ ∧ _
  rw [List.getElem?_set_ne n, List.getElem?_set_ne n2]
  exact l.2 i d e
theorem wipe1 (σ : L2.St) (j : Nat) (v : Option V) : wipe ((wipe σ [j]).set j v) [j] = wipe σ [j] := by
  show ((σ.set j none).set j v).set j none = σ.set j none
  rw [List.set_set, List.set_set]
theorem wipe2 (σ : L2.St) (j j2 : Nat) (v w : Option V) (h : j ≠ j2) : wipe (((wipe σ [j, j2]).set j v).set j2 w) [j, j2] = wipe σ [j, j2] := by
  show (((((σ.set j2 none).set j none).set j v).set j2 w).set j2 none).set j none = (σ.set j2 none).set j none
  rw [List.set_set, List.set_set]
  apply List.ext_getElem?
  intro i
  simp only [List.getElem?_set]
  split <;> split <;> simp_all
end
section
variable {X : Cx} {K : PySem.W.Frag} {T : TL} {Γ : Gm} {M M1 : MM} {elt tg iter : Expr} {scope : Scope} {pos pos' : Pos} {y : Str} {j j2 n : Nat} {nm nm2 : Str} {xs ys : Nat → Dat} {Ms : Nat → MM} {own : List (Str × Nat)} {Γs : Nat → Gm} {g : TG}
/-- what the block must do with an item -/
def GW (K : PySem.W.Frag) (T : TL) (Γ : Gm) (n : Nat) (xs : Nat → Dat) (Ms : Nat → MM) (g : TG) (vs : List Nat) (Γs : Nat → Gm) : Prop :=
  ∀ i D H σ x (Q : L2.St → Hp → Prop), i < n → Sat K T D (Ms i) H → Sl K D σ Γ → Rep K D x (xs i) → (∀ σ2, wipe σ2 vs = wipe σ vs → Sl K D σ2 (Γs i) → Q σ2 H) → g x (wipe σ vs) H Q
theorem gw1 (hj : Γ[j]? = some none) : GW K T Γ n xs Ms (gName j) [j] (fun i => Γ.set j (some (xs i))) := fun i D H σ x Q hi s l r q => q _ (wipe1 σ j _) ((sl_wipe1 l hj).set r)
theorem gw2 {as bs : Nat → Dat} (hj : Γ[j]? = some none) (hj2 : Γ[j2]? = some none) (hne : j ≠ j2) : GW K T Γ n (fun i => .tup [as i, bs i]) Ms (gTup K 2 (gCons (gName j) (gCons (gName j2) gNil))) [j, j2] (fun i => (Γ.set j (some (as i))).set j2 (some (bs i))) :=
  fun i D H σ x Q hi s l r q => by
    cases r with | @tup a zs _ h1 q1 =>
    obtain ⟨v, w, ev, rv, rw'⟩ := reps2 q1
    subst ev
    exact ⟨a, [v, w], rfl, SqT.of (s.ex _ _ h1), rfl, v, [w], rfl, w, [], rfl, rfl, q _ (wipe2 σ j j2 _ _ hne) (((sl_wipe2 l hj hj2).set rv).set rw')⟩
theorem lc_reads {te : TE} {wi : TI} (hwi : wi = tI K T Γ M n xs M1) (hw : GW K T Γ n xs Ms g (own.map (·.2)) Γs) (h0 : Ms 0 = M1) (hz : n ≤ 1000000)
    (hte : ∀ i, i < n → ∀ σ H Q, tD K T (Γs i) (Ms i) (ys i) (Ms (i + 1)) σ H Q → te σ H Q) (σ : L2.St) (H : Hp) (Q : VK) (h : tD K T Γ M (.lst ((List.range n).map ys)) (Ms n) σ H Q) : tLc wi g tYes te (own.map (·.2)) σ H Q := by
  subst hwi h0
  obtain ⟨D, s, l, k⟩ := h
  refine ⟨D, s, l, fun J D1 H1 f1 it L hL => ?_⟩
  have sd := f1.sat.side hL (.lst [])
  have dL : D1 L = none := f1.sat.ex.nil hL
  have mL : Ms 0 L = none := f1.sat.mfree hL
  have nL : ∀ a o, H a = some o → M a = none → a ≠ L := fun a o ea m z => by
    obtain ⟨_, o', h'⟩ := f1.nm a o ea m
    rw [z, hL] at h'; cases h'
  refine ⟨fun i m H' => m = n - i ∧ i ≤ n ∧ ∃ D' acc, Fw K T M D H (Ms i) D' H' ∧ Ex D1 D' ∧ H' L = some (.lst acc) ∧ D' L = none ∧ Ms i L = none ∧ Reps K D' acc ((List.range i).map ys), ⟨n, by simp, Nat.zero_le _, D1, [], f1.trans sd, Ex.refl, upd_same, dL, mL, .nil⟩, ?_⟩
  rintro i m H' ⟨rfl, hle, D', acc, f, ex, hH, hD, hM, ra⟩
  by_cases hlt : i < n
  · refine .inr ⟨it.go i D' _ H' ex f.sat hlt, fun H4 => ∃ D4 acc4, Fw K T M D H (Ms (i + 1)) D4 H4 ∧ Ex D1 D4 ∧ H4 L = some (.lst acc4) ∧ D4 L = none ∧ Ms (i + 1) L = none ∧ Reps K D4 acc4 ((List.range (i + 1)).map ys), fun H4 ⟨D4, acc4, z⟩ => ⟨n - (i + 1), by omega, rfl, hlt, D4, acc4, z⟩, fun x H2 hy => ?_⟩
    obtain ⟨D2, f2, rx⟩ := it.yld i D' _ H' ex f.sat hlt x H2 hy
    have nt : ∀ ps, HO.lst acc ≠ .tbl ps := fun _ z => nomatch z
    have hH2 := f2.kp L _ hH hM nt
    have hD2 := f2.fr L _ hH hM hD nt (fun _ z => nomatch z)
    refine hw i D2 H2 σ x _ hlt f2.sat (l.mono (f.ex.trans f2.ex)) rx fun σ2 hs2 l2 => ⟨hs2, ?_⟩
    simp only [tYes, ↓reduceIte]
    refine hte i hlt σ2 H2 _ ⟨D2, f2.sat, l2, fun v D3 H3 f3 rv => ?_⟩
    have hH3 := f3.kp L _ hH2 hM nt
    obtain ⟨hM3, _⟩ := f3.nm L _ hH2 hM
    have hD3 := f3.fr L _ hH2 hM hD2 nt (fun _ z => nomatch z)
    have ha : acc.length = i := by rw [ra.length, List.length_map, List.length_range]
    refine ⟨acc, hH3, by rw [ha, sizeLine_eq]; omega, D3, acc ++ [v], ?_, (ex.trans f2.ex).trans f3.ex, upd_same, hD3, hM3, ?_⟩
    · have g4 := (f.trans f2).trans f3
      have sa : Sat K T D3 (Ms (i + 1)) (upd H3 L (.lst (acc ++ [v]))) := f3.sat.aside hH3 hD3 hM3 nt (fun _ z => nomatch z) _ (Tabs.write f3.sat.tb hH3 nt (fun _ z => nomatch z) _)
      exact ⟨g4.ex, sa, fun a o ea m nt' => by rw [upd_ne (nL a o ea m)]; exact g4.kp a o ea m nt', fun a o ea m => by rw [upd_ne (nL a o ea m)]; exact g4.nm a o ea m, g4.fr⟩
    · rw [List.range_succ, List.map_append]
      exact (ra.mono (f2.ex.trans f3.ex)).append (.cons rv .nil)
  · have e : i = n := by omega
    subst e
    -- the list is done: frozen
    have hd2 : Ex D' (upd D' L (.lst acc)) := Ex.upd hD
    have fz : Fw K T M D H (Ms i) (upd D' L (.lst acc)) H' := by
      refine ⟨f.ex.trans hd2, ⟨fun a u q => ?_, fun q mo hq => ?_, f.sat.tb, fun a ps z => by
        by_cases h : a = L
        · rw [h, upd_same] at z; cases z
        · rw [upd_ne h] at z; exact f.sat.nt a ps z⟩, f.kp, f.nm, fun a o h m d n1 n2 => by rw [upd_ne (nL a o h m)]; exact f.fr a o h m d n1 n2⟩
      · by_cases h : a = L
        · subst h; rw [upd_same] at q; cases q; exact hH
        · rw [upd_ne h] at q; exact f.sat.ex a u q
      · obtain ⟨a1, a2⟩ := f.sat.mu q mo hq
        have n : q ≠ L := fun z => by rw [z, hM] at hq; cases hq
        exact ⟨by rw [upd_ne n]; exact a1, a2.mono hd2 fun u z => z⟩
    exact .inl ⟨it.stop D' _ H' ex f.sat, k _ _ _ fz (.lst upd_same (ra.mono hd2))⟩

def tOr' (X : Cx) (n : Nat) (Γs : Nat → Gm) (Ms : Nat → MM) (ys : Nat → Dat) (T : TL) : TE := fun σ H Q => ∃ i, i < n ∧ tD X.K T (Γs i) (Ms i) (ys i) (Ms (i + 1)) σ H Q
theorem pe_or' {Y : Cx} {e : Expr} (hK : Y.K = X.K) (h : ∀ i, i < n → DX Y T (Γs i) (Ms i) e (ys i) (Ms (i + 1))) : PE Y e (tOr' X n Γs Ms ys T) := ⟨fun pins s σ H Q I ⟨i, hi, q⟩ => (h i hi).run pins s σ H Q I (by rw [hK]; exact q)⟩
/-- [elt for x in iter] -/
theorem dx_lc {k' : Pos} (Ms : Nat → MM) (ys : Nat → Dat) (hc : X.calm = true) (hN : X.N.Nodup) (hi : IX X T Γ M (.Name nm k') iter n xs M1) (hj : Γ[j]? = some none) (ok : BlkOk X.N X.env.scope scope [(nm, j)])
    (hg : ∀ (s : Shared) (H : Hp) (C : Addr) (cl : List (Str × Addr)) (fp : List Addr), PG (X.blk s H scope (compEnvC scope cl C X.env) fp) (.Name nm k') (gName j)) (h0 : Ms 0 = M1) (hz : n ≤ 1000000)
    (he : ∀ (s : Shared) (H : Hp) (C : Addr) (cl : List (Str × Addr)) (fp : List Addr) i, i < n → DX (X.blk s H scope (compEnvC scope cl C X.env) fp) T (Γ.set j (some (xs i))) (Ms i) elt (ys i) (Ms (i + 1))) (hs : ∀ x, foldedSetIterable iter X.env x = pure x := by intro _; rfl) :
    DX X T Γ M (.ListComp elt [⟨.Name nm k', iter, [], 0⟩] scope pos) (.lst ((List.range n).map ys)) (Ms n) :=
  pe_w (pe_lc (own := [(nm, j)]) (g := gName j) (tt := tYes) (te := tOr' X n (fun i => Γ.set j (some (xs i))) Ms ys T) hc hN hi ok hg (fun _ _ _ _ _ => pts_nil) (fun s H C cl fp => pe_or' rfl fun i hi => he s H C cl fp i hi) hs)
    fun σ H Q h => lc_reads (own := [(nm, j)]) (Γs := fun i => Γ.set j (some (xs i))) rfl (gw1 hj) h0 hz (fun i hi σ H Q q => ⟨i, hi, q⟩) σ H Q h
/-- [elt for x, y in enumerate(..)] -/
theorem dx_lc2 {as bs : Nat → Dat} {p1 p2 pt : Pos} {kt : Nat} (Ms : Nat → MM) (ys : Nat → Dat) (hc : X.calm = true) (hN : X.N.Nodup) (hi : IX X T Γ M (.Tuple [.Name nm p1, .Name nm2 p2] kt pt) iter n (fun i => .tup [as i, bs i]) M1) (hj : Γ[j]? = some none) (hj2 : Γ[j2]? = some none) (hne : j ≠ j2) (ok : BlkOk X.N X.env.scope scope [(nm, j), (nm2, j2)])
    (hg : ∀ (s : Shared) (H : Hp) (C : Addr) (cl : List (Str × Addr)) (fp : List Addr), PG (X.blk s H scope (compEnvC scope cl C X.env) fp) (.Tuple [.Name nm p1, .Name nm2 p2] kt pt) (gTup X.K 2 (gCons (gName j) (gCons (gName j2) gNil)))) (h0 : Ms 0 = M1) (hz : n ≤ 1000000)
    (he : ∀ (s : Shared) (H : Hp) (C : Addr) (cl : List (Str × Addr)) (fp : List Addr) i, i < n → DX (X.blk s H scope (compEnvC scope cl C X.env) fp) T ((Γ.set j (some (as i))).set j2 (some (bs i))) (Ms i) elt (ys i) (Ms (i + 1))) (hs : ∀ x, foldedSetIterable iter X.env x = pure x := by intro _; rfl) :
    DX X T Γ M (.ListComp elt [⟨.Tuple [.Name nm p1, .Name nm2 p2] kt pt, iter, [], 0⟩] scope pos) (.lst ((List.range n).map ys)) (Ms n) :=
  pe_w (pe_lc (own := [(nm, j), (nm2, j2)]) (tt := tYes) (te := tOr' X n (fun i => (Γ.set j (some (as i))).set j2 (some (bs i))) Ms ys T) hc hN hi ok hg (fun _ _ _ _ _ => pts_nil) (fun s H C cl fp => pe_or' rfl fun i hi => he s H C cl fp i hi) hs)
    fun σ H Q h => lc_reads (own := [(nm, j), (nm2, j2)]) (Γs := fun i => (Γ.set j (some (as i))).set j2 (some (bs i))) rfl (gw2 hj hj2 hne) h0 hz (fun i hi σ H Q q => ⟨i, hi, q⟩) σ H Q h
/-- y = [elt for x in iter] on one line -/
theorem hs_setLc {k' : Pos} {i : Nat} {py : Pos} {spos : Pos} {ss : List Stmt} {R : Out → Prop} (Ms : Nat → MM) (ys : Nat → Dat) (hc : X.calm = true) (hN : X.N.Nodup) (hy : X.N[i]? = some y) (hyl : X.env.scope.names.lookup y = some .local)
    (hsw : swapsWith (.ListComp elt [⟨.Name nm k', iter, [], 0⟩] scope pos) (some (.Name y py)) spos.line X.env = pure true) (hi : IX X T Γ M (.Name nm k') iter n xs M1) (hj : Γ[j]? = some none) (ok : BlkOk X.N X.env.scope scope [(nm, j)])
    (hg : ∀ (s : Shared) (H : Hp) (C : Addr) (cl : List (Str × Addr)) (fp : List Addr), PG (X.blk s H scope (compEnvC scope cl C X.env) fp) (.Name nm k') (gName j)) (h0 : Ms 0 = M1) (hz : n ≤ 1000000)
    (he : ∀ (s : Shared) (H : Hp) (C : Addr) (cl : List (Str × Addr)) (fp : List Addr) i, i < n → DX (X.blk s H scope (compEnvC scope cl C X.env) fp) T (Γ.set j (some (xs i))) (Ms i) elt (ys i) (Ms (i + 1)))
    (h : HS X T (Γ.set i (some (.lst ((List.range n).map ys)))) (Ms n) ss R) (hs : ∀ x, foldedSetIterable iter X.env x = pure x := by intro _; rfl) :
    HS X T Γ M (.Assign [.Name y py] (.ListComp elt [⟨.Name nm k', iter, [], 0⟩] scope pos) spos :: ss) R :=
  pss_w (pss_cons (ps_setLc (own := [(nm, j)]) (g := gName j) (tt := tYes) (te := tOr' X n (fun i => Γ.set j (some (xs i))) Ms ys T) hc hN hy hyl hsw hi ok hg (fun _ _ _ _ _ => pts_nil) (fun s H C cl fp => pe_or' rfl fun i hi => he s H C cl fp i hi) hs) (pss_any (ss := ss)))
    fun E σ H ⟨D, s, l, k1, k2⟩ => lc_reads (own := [(nm, j)]) (Γs := fun i => Γ.set j (some (xs i))) rfl (gw1 hj) h0 hz (fun i hi σ H Q q => ⟨i, hi, q⟩) σ H _ ⟨D, s, l, fun v D' H' f r => hs_rest f ((l.mono f.ex).set r) h k1 k2⟩
end
section
variable {X : Cx} {T : TL} {Γ Γ1 Γ2 : Gm} {M M1 M2 M3 : MM} {e o c a b : Expr} {es : List Expr} {d d1 : Dat} {ds ds1 : List Dat} {pos p1 apos cpos : Pos} {q : Addr} {i : Int} {ss : List Stmt} {R : Out → Prop}
/-- l.append(e), l mutable -/
theorem dx_append (ho : DX X T Γ M o (.ptr q) M1) (he : DX X T Γ M1 e d M2) (h1 : M1 q = some (.ml ds1)) (h2 : M2 q = some (.ml ds)) (hz : ds.length < 1000000)
    (hbase : attributeBase o "append" X.env (eval o X.env) = eval o X.env := by rfl)
    (hfew : ((backTo cpos (starEach [e] X.env)).all (fun x => !x.1) && (backToKw cpos (keywordEach [] X.env)).all (fun x => x.1.isSome)
      && decide ([e].length + ([] : List Keyword).length + (if ([] : List Keyword).isEmpty then 0 else 1) < 30)) = true := by rfl)
    (hline : (apos.endLine == cpos.line) = true := by rfl) (hs : starEach [e] X.env = (false, eval e X.env) :: starEach [] X.env := by rfl) :
    DX X T Γ M (.Call (.Attribute o "append" apos) [e] [] cpos) .non (M2.set q (.ml (ds ++ [d]))) :=
  pe_w (pe_bm PySem.F.plainAttrs_list PySem.F.slot_list_append PySem.F.type_list_append mt_append ho (ax_cons he ax_nil hs) hbase hfew hline hs) fun σ H Q ⟨D, s, l, k⟩ => ⟨D, s, l, fun x D1 H1 f1 r1 => by
    cases r1
    obtain ⟨xs1, hx1, _⟩ := (f1.sat.mu _ _ h1).2
    refine ⟨Or.inl ⟨rfl, _, Or.inl (Or.inl hx1)⟩, D1, f1.sat, l.mono f1.ex, fun vs D2 H2 f2 r2 => ?_⟩
    obtain ⟨v, ev, rv⟩ := reps1 r2
    obtain ⟨xs, hx, rs⟩ := (f2.sat.mu _ _ h2).2
    have g := f2.sat.write (u := .lst (xs ++ [v])) (mo := .ml (ds ++ [d])) h2 ⟨_, upd_same, rs.append (.cons rv .nil)⟩
    exact ⟨q, xs, v, rfl, ev, hx, by rw [rs.length, sizeLine_eq]; omega, k _ _ _ ((f1.trans f2).trans g) .at⟩⟩
theorem Reps.snoc {K : PySem.W.Frag} {D : Hp} {vs : List V} (h : Reps K D vs (ds ++ [d])) : ∃ v, vs[vs.length - 1]? = some v ∧ Rep K D v d ∧ Reps K D vs.dropLast ds := by
  induction ds generalizing vs with
  | nil => obtain ⟨v, ev, rv⟩ := reps1 h; subst ev; exact ⟨v, rfl, rv, .nil⟩
  | cons e es ih =>
    cases h with | @cons v vs _ _ a b =>
    obtain ⟨w, h1, h2, h3⟩ := ih b
    have hl : vs.length = es.length + 1 := by rw [b.length]; simp
    refine ⟨w, ?_, h2, ?_⟩
    · rw [show (v :: vs).length - 1 = es.length + 1 by simp [hl], ← h1, hl]; rfl
    · cases vs with
      | nil => simp at hl
      | cons z zs => exact .cons a h3
theorem dx_pop (ho : DX X T Γ M o (.ptr q) M1) (h1 : M1 q = some (.ml (ds ++ [d]))) (hbase : attributeBase o "pop" X.env (eval o X.env) = eval o X.env := by rfl) (hline : (apos.endLine == cpos.line) = true := by rfl) :
    DX X T Γ M (.Call (.Attribute o "pop" apos) [] [] cpos) d (M1.set q (.ml ds)) :=
  pe_w (pe_bm0 PySem.F.plainAttrs_list PySem.F.slot_list_pop PySem.F.type_list_pop mt_pop ho hbase hline) fun σ H Q ⟨D, s, l, k⟩ => ⟨D, s, l, fun x D1 H1 f1 r1 => by
    cases r1
    obtain ⟨xs, hx, rs⟩ := (f1.sat.mu _ _ h1).2
    obtain ⟨v, hv, rv, rr⟩ := rs.snoc
    have g := f1.sat.write (u := .lst xs.dropLast) (mo := .ml ds) h1 ⟨_, upd_same, rr⟩
    exact ⟨Or.inl ⟨rfl, _, Or.inl (Or.inl hx)⟩, q, xs, v, rfl, rfl, hx, hv, k _ _ _ (f1.trans g) rv⟩⟩
/-- {} that is to change -/
theorem rx_dict : RX X T Γ M (.Dict [] [] pos) (fun d M' => ∃ p, M p = none ∧ d = .ptr p ∧ M' = M.set p (.md [])) :=
  pe_w pe_dnewK fun σ H Q ⟨D, s, l, k⟩ p hp => k _ _ _ _ _ ⟨p, s.mfree hp, rfl, rfl⟩ (s.newM (o := .dK []) (mo := .md []) hp ⟨[], upd_same, .nil⟩) .at
theorem RepK.snoc {K : PySem.W.Frag} {D : Hp} {ks : List (Key × V)} {kvs : List (Int × Dat)} {v : V} (h : RepK K D ks kvs) (r : Rep K D v d) (hn : kvs.lookup i = none) : RepK K D (putK ks (Sum.inl i : Key) v) (kvs ++ [(i, d)]) ∧ ks.length = kvs.length := by
  have : valV ks (Sum.inl i : Key) = none ∧ ks.length = kvs.length ∧ RepK K D (ks ++ [(Sum.inl i, v)]) (kvs ++ [(i, d)]) := by
    induction kvs generalizing ks with
    | nil => cases h; exact ⟨rfl, rfl, .cons r .nil⟩
    | cons p kvs ih =>
      cases h with | @cons k w ks' d' _ r1 r2 =>
      rw [List.lookup_cons] at hn
      by_cases hk : i = k
      · subst hk; rw [show (i == i) = true by simp] at hn; cases hn
      · rw [show (i == k) = false by simp [hk]] at hn
        obtain ⟨a, b, c⟩ := ih r2 hn
        exact ⟨by rw [valV_neg (by intro z; exact hk (Sum.inl.inj z).symm)]; exact a, by simp [b], .cons r1 c⟩
  obtain ⟨a, b, c⟩ := this
  refine ⟨?_, b⟩
  unfold putK
  rw [valV_any, a]
  exact c
theorem hs_dput {kvs : List (Int × Dat)} (hu : X.A.units + 1 < cLine) (he : DX X T Γ M e d M1) (ho : DX X T Γ M1 o (.ptr q) M2) (hi : DX X T Γ M2 a (.int i) M3) (hm : M3 q = some (.md kvs)) (hn : kvs.lookup i = none) (hl : kvs.length < 1000000)
    (h : HS X T Γ (M3.set q (.md (kvs ++ [(i, d)]))) ss R) (hs : swapsWith e (some (.Subscript o a p1)) pos.line X.env = pure false := by rfl) : HS X T Γ M (.Assign [.Subscript o a p1] e pos :: ss) R :=
  pss_w (pss_cons (ps_dput hu ho hi he hs) pss_any) fun E σ H ⟨D, s, l, k1, k2⟩ => ⟨D, s, l, fun v D1 H1 f1 r1 => ⟨D1, f1.sat, l.mono f1.ex, fun x D2 H2 f2 r2 => ⟨D2, f2.sat, (l.mono f1.ex).mono f2.ex, fun y D3 H3 f3 r3 => by
    cases r2
    cases r3
    obtain ⟨ks, hx, rs⟩ := (f3.sat.mu _ _ hm).2
    obtain ⟨rk, hlen⟩ := rs.snoc ((r1.mono f2.ex).mono f3.ex) hn
    have g := f3.sat.write (u := .dK (putK ks (Sum.inl i : Key) v)) (mo := .md (kvs ++ [(i, d)])) hm ⟨_, upd_same, rk⟩
    exact ⟨q, _, rfl, DPut.k (k := Sum.inl i) hx (by rw [hlen, sizeLine_eq]; omega), hs_rest (((f1.trans f2).trans f3).trans g) ((((l.mono f1.ex).mono f2.ex).mono f3.ex).mono g.ex) h k1 k2⟩⟩⟩⟩
/-! isinstance -/
structure IsC (K : PySem.W.Frag) (C : Addr) : Prop where
  cl : Cls K C
  ha : PySem.W.findIn K (.ref C) "__class__" = some (some (.builtin "object.__class__"))
  hn : PySem.W.specialIn K (.builtin "object.__class__") "__get__" = some (some (.builtin "getset_descriptor.__get__"))
  htk : PySem.W.takesIn K (.builtin "object.__class__") = some true
  hm : PySem.W.mroIn K C (.type "object") = some true
def TyD (K : PySem.W.Frag) (d : Dat) (t : Value) : Prop := ∀ (D H : Hp) (v : V), Ex D H → Rep K D v d → TyX K H v t
theorem tyd_non {K : PySem.W.Frag} : TyD K .non (.type "NoneType") := fun D H v e r => by cases r; exact .base .non
theorem tyd_int {K : PySem.W.Frag} : TyD K (.int i) (.type "int") := fun D H v e r => by cases r; exact .base (.int i)
theorem tyd_str {K : PySem.W.Frag} {z : Str} : TyD K (.str z) (.type "str") := fun D H v e r => by cases r; exact .base (.str z)
theorem tyd_bl {K : PySem.W.Frag} {z : Bool} : TyD K (.bl z) (.type "bool") := fun D H v e r => by cases r; exact .base (.bl z)
theorem tyd_lst {K : PySem.W.Frag} : TyD K (.lst ds) (.type "list") := fun D H v e r => by cases r with | lst h _ => exact .base (.lst (e _ _ h))
theorem tyd_tup {K : PySem.W.Frag} : TyD K (.tup ds) (.type "tuple") := fun D H v e r => by cases r with | tup h _ => exact .base (.tup (e _ _ h))
theorem tyd_ins {K : PySem.W.Frag} {C : Addr} {fs : List (Str × Dat)} (c : IsC K C) : TyD K (.ins C fs) (.ref C) := fun D H v e r => by cases r with | ins h _ => exact .base (.ins (e _ _ h) c.cl c.ha c.hn c.htk c.hm)
theorem dx_isi {t u : Value} {cv : V} {bb : Bool} (hm : X.mg "isinstance" = none) (ha : DX X T Γ M a d M1) (hb : DX X T Γ M1 b (.at cv) M2) (ty : TyD X.K d t) (hc : ClsV cv u) (hk : PySem.W.kitOne X.K t u = some bb) (hg : Gl X "isinstance" := by rfl)
    (he : starEach [a, b] X.env = (false, eval a X.env) :: starEach [b] X.env := by rfl) (he2 : starEach [b] X.env = (false, eval b X.env) :: starEach [] X.env := by rfl) (hpl : (backTo pos (starEach [b] X.env)).any (·.1) = false := by rfl) : DX X T Γ M (.Call (.Name "isinstance" p1) [a, b] [] pos) (.bl bb) M2 :=
  dx_callB call_isi hm (by decide +kernel) (ax_cons ha (ax_cons hb ax_nil he2) he) (fun D H vs Q s r k => by
    obtain ⟨v, w, ev, rv, rw'⟩ := reps2 r
    cases rw'
    subst ev
    exact ⟨v, cv, t, u, bb, rfl, hc, ty D H v s.ex rv, hk, k _ D H (Fw.refl s) .at⟩) hg (he := he) (hpl := hpl)
theorem dx_isiT {t : Value} {us : List Value} {cs : List V} {bb : Bool} (hm : X.mg "isinstance" = none) (ha : DX X T Γ M a d M1) (hb : DX X T Γ M1 b (.tup (cs.map .at)) M2) (ty : TyD X.K d t) (hc : Paired ClsV cs us) (hk : PySem.W.kitAny X.K t us = some bb) (hg : Gl X "isinstance" := by rfl)
    (he : starEach [a, b] X.env = (false, eval a X.env) :: starEach [b] X.env := by rfl) (he2 : starEach [b] X.env = (false, eval b X.env) :: starEach [] X.env := by rfl) (hpl : (backTo pos (starEach [b] X.env)).any (·.1) = false := by rfl) : DX X T Γ M (.Call (.Name "isinstance" p1) [a, b] [] pos) (.bl bb) M2 :=
  dx_callB call_isiT hm (by decide +kernel) (ax_cons ha (ax_cons hb ax_nil he2) he) (fun D H vs Q s r k => by
    obtain ⟨v, w, ev, rv, rw'⟩ := reps2 r
    cases rw' with | @tup tp xs _ h1 q1 =>
    have : ∀ {xs : List V} {cs : List V}, Reps X.K D xs (cs.map Dat.at) → xs = cs := fun {xs cs} h => by
      induction cs generalizing xs with
      | nil => cases h; rfl
      | cons c cs ih => cases h with | cons a b => rw [a.inv_at, ih b]
    have e1 := this q1
    subst ev e1
    exact ⟨v, tp, xs, t, us, bb, rfl, s.ex _ _ h1, hc, ty D H v s.ex rv, hk, k _ D H (Fw.refl s) .at⟩) hg (he := he) (hpl := hpl)
end
/-! defs -/
def retR (R : Dat → MM → Prop) : Out → Prop
  | .nx _ M => R .non M
  | .rt d M => R d M
def gm0 (N : List Str) (ds : List Dat) : Gm := ds.map some ++ List.replicate (N.length - ds.length) none
theorem sl_start {K : PySem.W.Frag} {D : Hp} {N : List Str} {vs : List V} {ds : List Dat} (r : Reps K D vs ds) : Sl K D (L2.start N vs) (gm0 N ds) := by
  unfold L2.start gm0
  refine ⟨by simp [r.length], fun i d e => ?_⟩
  by_cases h : i < ds.length
  · rw [List.getElem?_append_left (by simpa using h), List.getElem?_map] at e
    cases q : ds[i]? with
    | none => rw [q] at e; cases e
    | some d' =>
      rw [q] at e; cases e
      obtain ⟨v, hv, rv⟩ := r.get q
      exact ⟨v, by rw [List.getElem?_append_left (by simpa [r.length] using h), List.getElem?_map, hv]; rfl, rv⟩
  · rw [List.getElem?_append_right (by simpa using h), List.getElem?_replicate] at e
    split at e <;> cases e
theorem body_ok {X : Cx} {T : TL} {N : List Str} {body : List Stmt} {ds : List Dat} {M : MM} {R : Dat → MM → Prop} {D H : Hp} {vs : List V} {Q : VK} (hb : HS X.nox T (gm0 N ds) M body (retR R)) (s : Sat X.K T D M H) (r : Reps X.K D vs ds)
    (k : ∀ v d M' D' H', R d M' → Fw X.K T M D H M' D' H' → Rep X.K D' v d → Q v H') : ∃ t, PSs X body t ∧ t { nx := fun _ H' => Q .non H', rt := Q } (L2.start N vs) H :=
  ⟨_, PSs.nox hb, D, s, sl_start r, fun σ' Γ' M' D' H' hR f _ => k .non .non M' D' H' hR f .at, fun v d M' D' H' hR f rv => k v d M' D' H' hR f rv⟩
section
variable {Pg : Program} {w : World} {K : PySem.W.Frag} {mg : Str → Option Value} {base : Heap} {T : TL} {x qual : Str} {params : Arguments} {body : List Stmt} {scope : Scope} {N ps : List Str} {f : Addr} {fd : FuncData} {k : Nat} {P : PtD}
theorem fd_ok (F : FunD K x qual params body scope [] [] f fd) (S : FnScope N ps scope) (hb : Binds K fd ps []) (hl : ∀ ds M R, P ds M R → ds.length = ps.length)
    (h : ∀ cdv A outer s H E ds M R, Room k (A.deeper (envOfC qual scope s.heap.objs.size f cdv)) → P ds M R → HS (cxOf CX0 Pg w K mg base N qual scope f cdv A outer s H E).nox T (gm0 N ds) M body (retR R)) : FnR Pg w K mg base CX0 (k + 1) f (spD K T P) := by
  have G : FnOk Pg w K mg base CX0 (k + 1) f fd ps (spD K T P) := F.ok S (fun vs H Q E ⟨D, M, ds, R, s, r, hp, kk⟩ => by rw [r.length]; exact hl ds M R hp)
    fun cdv A outer s H vs Q E hr ⟨D, M, ds, R, sa, r, hp, kk⟩ => body_ok (h cdv A outer s H E ds M R hr hp) sa r kk
  exact (G.raw hb .nil).imp fun vs H Q E z => by rw [List.append_nil]; exact z
/-- with defaults that are never used -/
theorem fd_okB {dv : List V} (F : FunD K x qual params body scope dv [] f fd) (S : FnScope N ps scope) (hb : Binds K fd ps []) (hl : ∀ ds M R, P ds M R → ds.length = ps.length)
    (h : ∀ cdv A outer s H E ds M R, Room k (A.deeper (envOfC qual scope s.heap.objs.size f cdv)) → P ds M R → HS (cxOf CX0 Pg w K mg base N qual scope f cdv A outer s H E).nox T (gm0 N ds) M body (retR R)) : FnR Pg w K mg base CX0 (k + 1) f (spD K T P) := by
  have G : FnOk Pg w K mg base CX0 (k + 1) f fd ps (spD K T P) := F.ok S (fun vs H Q E ⟨D, M, ds, R, s, r, hp, kk⟩ => by rw [r.length]; exact hl ds M R hp)
    fun cdv A outer s H vs Q E hr ⟨D, M, ds, R, sa, r, hp, kk⟩ => body_ok (h cdv A outer s H E ds M R hr hp) sa r kk
  exact (G.raw hb .nil).imp fun vs H Q E z => by rw [List.append_nil]; exact z
/-- def f(a, .., *v) -/
theorem fd_star {pv : Str} (F : FunD K x qual params body scope [] [] f fd) (S : FnScope N (ps ++ [pv]) scope)
    (hb : ∀ (kV doc pm : Value) (an : Option Addr) (cdv ct : Value) (us rest : List Value), us.length = ps.length → bindArgs (PySem.W.fnOf x qual params body scope .none kV doc pm an cdv ct) ⟨us ++ rest, []⟩ = (newTuple rest >>= fun t => pure (ps.zip us ++ [(pv, t)])))
    (h : ∀ cdv A outer s H E ds M R, Room k (A.deeper (envOfC qual scope s.heap.objs.size f cdv)) → P ds M R → HS (cxOf CX0 Pg w K mg base N qual scope f cdv A outer s H E).nox T (gm0 N ds) M body (retR R)) :
    FnR Pg w K mg base CX0 (k + 1) f (spD K T fun ds M R => ∃ as bs, ds = as ++ bs ∧ as.length = ps.length ∧ bs.length ≤ 1000000 ∧ P (as ++ [.tup bs]) M R) := by
  obtain ⟨oc, od, dV, kV, doc, pm, an, cdv, ct, osl, rfl, lk, hcd, hD, hK⟩ := F.ex
  have eD : dV = .none := by
    rcases hD with ⟨_, e⟩ | ⟨e, _⟩
    · exact e
    · exact absurd rfl e
  subst eD
  have G := fn_star (CX := CX0) (P := Pg) (w := w) (mg := mg) (base := base) (k := k) (sp := spD K T P) lk hcd S cxUp_none (hb kV doc pm an cdv ct)
    fun A outer s H vs Q E hr ⟨D, M, ds, R, sa, r, hp, kk⟩ => body_ok (h cdv A outer s H E ds M R hr hp) sa r kk
  refine G.imp fun vs H Q E ⟨D, M, ds, R, sa, r, ⟨as, bs, e, la, lb, hp⟩, kk⟩ => ?_
  subst e
  have ra := r.take as.length
  have rb := r.drop as.length
  rw [List.take_left] at ra
  rw [List.drop_left] at rb
  refine ⟨vs.take as.length, vs.drop as.length, (List.take_append_drop _ _).symm, by rw [ra.length, la], by rw [rb.length, sizeLine_eq]; omega, fun p hp' => ?_⟩
  have g := sa.new hp' (.tup (vs.drop as.length))
  exact ⟨_, M, _, R, g.sat, (ra.mono g.ex).append (.cons (.tup upd_same (rb.mono g.ex)) .nil), hp, fun v d M' D' H' hR f rv => kk v d M' D' H' hR (g.trans f) rv⟩
end
end Da
end
section
set_option autoImplicit false
/-! Short forms. -/
namespace Da
open PySem PySem.Spec PyProof.Rows L2 StX LamX
section
variable {X : Cx} {T : TL} {Γ : Gm} {M M1 : MM} {d : Dat} {pos p : Pos} {e : Expr} {ss : List Stmt} {R : Out → Prop}
theorem v (i : Nat) {x : Str} (hN : X.N[i]? = some x := by rfl) (hg : Γ[i]? = some (some d) := by rfl) (hv : Vis X.env.scope x := by first | exact .inl rfl | exact .inr (.inl rfl) | exact .inr (.inr rfl)) (hd : (x == ("__debug__" : Str)) = false := by decide) (hcd : (x == ("__classdict__" : Str)) = false := by decide) : DX X T Γ M (.Name x pos) d M := dx_var i hN hg hv hd hcd
theorem DX.cast {d' : Dat} {M2 : MM} (h : DX X T Γ M e d M1) (e1 : d = d') (e2 : M1 = M2) : DX X T Γ M e d' M2 := by subst e1 e2; exact h
theorem TX.cast {b b' : Bool} (h : TX X T Γ M e b M1) (e1 : b = b') : TX X T Γ M e b' M1 := by subst e1; exact h
theorem tnotN {a : Expr} {bb : Bool} {j pos'} (ha : DX X T Γ M a d M1) (e : bb = !d.isNon := by rfl) : TX X T Γ M (.Compare a [.IsNot] [.Constant .none j pos'] pos) bb M1 := by subst e; exact tx_notN ha
theorem tisN {a : Expr} {bb : Bool} {j pos'} (ha : DX X T Γ M a d M1) (e : bb = d.isNon := by rfl) : TX X T Γ M (.Compare a [.Is] [.Constant .none j pos'] pos) bb M1 := by subst e; exact tx_isN ha
theorem notE {a : Expr} {b bb : Bool} (h : DX X T Γ M a (.bl b) M1) (e : bb = !b := by rfl) : DX X T Γ M (.UnaryOp .Not a pos) (.bl bb) M1 := by subst e; exact dx_not h
theorem tnot {a : Expr} {b bb : Bool} (h : TX X T Γ M a b M1) (e : bb = !b := by rfl) : TX X T Γ M (.UnaryOp .Not a pos) bb M1 := by subst e; exact tx_not h
/-- lo <= x <= hi -/
theorem leLe {a b c : Expr} {i j k : Int} {M2 M3 : MM} (ha : DX X T Γ M a (.int i) M1) (hb : DX X T Γ M1 b (.int j) M2) (hc : DX X T Γ M2 c (.int k) M3) (hM : M2 = M3) (hm : lastMarks [.LtE, .LtE] [b, c] = false := by with_unfolding_all rfl) : DX X T Γ M (.Compare a [.LtE, .LtE] [b, c] pos) (.bl (decide (i ≤ j) && decide (j ≤ k))) M3 := by
  subst hM
  refine pe_w (pe_chain op_le op_le ha hb hc hm) fun σ H Q ⟨D, s, l, kk⟩ => ⟨D, s, l, fun x D1 H1 f1 r1 => ⟨D1, f1.sat, l.mono f1.ex, fun y D2 H2 f2 r2 => ⟨i, j, r1.inv_at, r2.inv_at, decide (i ≤ j), rfl, ?_⟩⟩⟩
  by_cases h : i ≤ j
  · rw [decide_eq_true h] at kk ⊢
    exact ifT ⟨D2, f2.sat, (l.mono f1.ex).mono f2.ex, fun z D3 H3 f3 r3 => ⟨j, k, r2.inv_at, r3.inv_at, by rw [Bool.true_and] at kk; exact kk _ _ _ ((f1.trans f2).trans f3) .at⟩⟩
  · rw [decide_eq_false h] at kk ⊢
    exact ifF (by rw [Bool.false_and] at kk; exact kk _ _ _ (f1.trans f2) .at)
theorem tup2 {a b : Expr} {d2 : Dat} {M2 : MM} {x1} (ha : DX X T Γ M a d M1) (hb : DX X T Γ M1 b d2 M2) (h1 : starEach [a, b] X.env = (false, eval a X.env) :: starEach [b] X.env := by rfl) (h2 : starEach [b] X.env = (false, eval b X.env) :: starEach [] X.env := by rfl) : DX X T Γ M (.Tuple [a, b] x1 pos) (.tup [d, d2]) M2 := dx_tup (ax_cons ha (ax_cons hb ax_nil h2) h1) (by simp)
theorem bt_int : bootBuiltins "int" = some (.type "int") := by decide +kernel
theorem bt_bool : bootBuiltins "bool" = some (.type "bool") := by decide +kernel
theorem bt_list : bootBuiltins "list" = some (.type "list") := by decide +kernel
theorem bt_tuple : bootBuiltins "tuple" = some (.type "tuple") := by decide +kernel
theorem bt_ve : bootBuiltins "ValueError" = some (.type "ValueError") := by decide +kernel
theorem ty_int (hm : X.mg "int" = none) (hg : Gl X "int" := by rfl) : DX X T Γ M (.Name "int" pos) (.at (.ty "int")) M := dx_bty hm bt_int hg
theorem ty_bool (hm : X.mg "bool" = none) (hg : Gl X "bool" := by rfl) : DX X T Γ M (.Name "bool" pos) (.at (.ty "bool")) M := dx_bty hm bt_bool hg
theorem ty_list (hm : X.mg "list" = none) (hg : Gl X "list" := by rfl) : DX X T Γ M (.Name "list" pos) (.at (.ty "list")) M := dx_bty hm bt_list hg
theorem ty_tuple (hm : X.mg "tuple" = none) (hg : Gl X "tuple" := by rfl) : DX X T Γ M (.Name "tuple" pos) (.at (.ty "tuple")) M := dx_bty hm bt_tuple hg
theorem bty {x : Str} {n : String} (hm : X.mg x = none) (hv : bootBuiltins x = some (.type n)) (hg : Gl X x := by rfl) (hn : x ≠ "__name__" := by decide) (hd : (x == ("__debug__" : Str)) = false := by decide) : DX X T Γ M (.Name x pos) (.at (.ty n)) M := dx_bty hm hv hg hn hd
theorem gi {x : Str} {i : Int} (hm : ∃ t, X.mg x = some (.int i t)) (hg : Gl X x := by rfl) (hd : (x == ("__debug__" : Str)) = false := by decide) : DX X T Γ M (.Name x pos) (.int i) M := dx_gint hm hg hd
theorem gr {x : Str} {C : Addr} (hm : X.mg x = some (.ref C)) (hg : Gl X x := by rfl) (hd : (x == ("__debug__" : Str)) = false := by decide) : DX X T Γ M (.Name x pos) (.ptr C) M := dx_gref hm hg hd
/-- x = e, x in slot i -/
theorem set_ (i : Nat) {x : Str} (hN : X.N.Nodup) (he : DX X T Γ M e d M1) (h : HS X T (Γ.set i (some d)) M1 ss R) (hi : X.N[i]? = some x := by rfl) (hx : Loc X.env.scope x := by first | exact .inl rfl | exact .inr rfl) (hs : swapsWith e (some (.Name x p)) pos.line X.env = pure false := by rfl)
    (hf : X.fn x = true ∨ X.env.scope.names.lookup x = some .local := by first | exact .inl rfl | exact .inr rfl) : HS X T Γ M (.Assign [.Name x p] e pos :: ss) R := hs_set i hN hi hx he h hs hf
theorem gn (i : Nat) {x : Str} (hN : X.N.Nodup) (hi : X.N[i]? = some x := by rfl) (hx : Loc X.env.scope x := by first | exact .inl rfl | exact .inr rfl) (hf : X.fn x = true ∨ X.env.scope.names.lookup x = some .local := by first | exact .inl rfl | exact .inr rfl | assumption) : GX X T Γ M (.Name x pos) d (Γ.set i (some d)) M := gx_name i hN hi hx hf
end
abbrev intsD (ns : List Int) : List Dat := ns.map Dat.int
theorem ints_getD {ns : List Int} {i : Nat} (h : i < ns.length) : (intsD ns).getD i .non = .int (ns.getD i 0) := by
  simp [List.getD_eq_getElem?_getD, h]
theorem ints_len {ns : List Int} : (intsD ns).length = ns.length := List.length_map ..
theorem IX.congr {X : Cx} {T : TL} {Γ : Gm} {M M1 : MM} {tg iter : Expr} {n m : Nat} {xs ys : Nat → Dat} (h : IX X T Γ M tg iter n xs M1) (en : n = m) (e : ∀ i, i < n → xs i = ys i) : IX X T Γ M tg iter m ys M1 := by
  subst en
  exact pi_w h fun σ H R ⟨D, s, l, k⟩ => ⟨D, s, l, fun J D' H' f it => k J D' H' f ⟨it.go, fun i D M H ex s hi x H' hy => by rw [← e i hi]; exact it.yld i D M H ex s hi x H' hy, it.stop⟩⟩
section
variable {X : Cx} {T : TL} {Γ : Gm} {M M1 : MM} {e tg : Expr} {ns : List Int} {pos p tpos : Pos}
theorem ixLI (h : DX X T Γ M e (.lst (intsD ns)) M1) : IX X T Γ M tg e ns.length (fun i => .int (ns.getD i 0)) M1 := (ix_list h).congr ints_len fun i hi => ints_getD (by rw [ints_len] at hi; exact hi)
theorem ixTI (h : DX X T Γ M e (.tup (intsD ns)) M1) : IX X T Γ M tg e ns.length (fun i => .int (ns.getD i 0)) M1 := (ix_tup' h).congr ints_len fun i hi => ints_getD (by rw [ints_len] at hi; exact hi)
theorem ixEI {elts : List Expr} {kk : Nat} (hm : X.mg "enumerate" = none) (h : DX X T Γ M e (.tup (intsD ns)) M1) (hg : Gl X "enumerate" := by rfl) (hs : starEach [e] X.env = (false, eval e X.env) :: starEach [] X.env := by rfl) :
    IX X T Γ M (.Tuple elts kk tpos) (.Call (.Name "enumerate" p) [e] [] pos) ns.length (fun i => .tup [.int i, .int (ns.getD i 0)]) M1 := (ix_enumT hm h hg hs).congr ints_len fun i hi => by rw [ints_getD (by rw [ints_len] at hi; exact hi)]
theorem atI_ints {ns : List Int} {i : Int} {x : Int} (h : L2.atI ns i = some x) : L2.atI (intsD ns) i = some (.int x) := by
  unfold L2.atI at h ⊢
  rw [ints_len]
  cases q : ixN ns.length i with
  | none => rw [q] at h; cases h
  | some j =>
    rw [q] at h
    have h : ns[j]? = some x := h
    show (intsD ns)[j]? = _
    simp [h]
theorem getD_mem {xs : List Int} {i : Nat} (h : i < xs.length) : xs.getD i 0 ∈ xs := by
  have : xs.getD i 0 = xs[i] := by simp [List.getD_eq_getElem?_getD, h]
  rw [this]; exact List.getElem_mem h
theorem atI_pos {ns : List Int} {i : Nat} (h : i < ns.length) : L2.atI ns (i : Int) = some (ns.getD i 0) := by
  apply L2.atI_nat
  simp [List.getD_eq_getElem?_getD, h]
end
/-! data that are compared -/
def pyI (ns : List Int) : List PyData := ns.map .int
def strsD (zs : List Str) : List Dat := zs.map Dat.str
def pyS (zs : List Str) : List PyData := zs.map .str
theorem pys_ints : ∀ ns : List Int, Dat.pys (intsD ns) = some (pyI ns)
  | [] => rfl
  | n :: ns => by
    show Dat.pys (Dat.int n :: intsD ns) = _
    rw [Dat.pys, pys_ints ns]
    rfl
theorem pys_strs : ∀ ns : List Str, Dat.pys (strsD ns) = some (pyS ns)
  | [] => rfl
  | n :: ns => by
    show Dat.pys (Dat.str n :: strsD ns) = _
    rw [Dat.pys, pys_strs ns]
    rfl
theorem py_ints (ns : List Int) : (Dat.lst (intsD ns)).py = some (.list (pyI ns)) := by rw [Dat.py, pys_ints]; rfl
theorem py_intsT (ns : List Int) : (Dat.tup (intsD ns)).py = some (.tuple (pyI ns)) := by rw [Dat.py, pys_ints]; rfl
theorem py_strs (ns : List Str) : (Dat.lst (strsD ns)).py = some (.list (pyS ns)) := by rw [Dat.py, pys_strs]; rfl
theorem py_strsT (ns : List Str) : (Dat.tup (strsD ns)).py = some (.tuple (pyS ns)) := by rw [Dat.py, pys_strs]; rfl
theorem lay_ints : ∀ ns : List Int, PyData.canLayAll0 (pyI ns) = true ∧ PyData.depthAll (pyI ns) = 0
  | [] => ⟨rfl, rfl⟩
  | n :: ns => by
    obtain ⟨a, b⟩ := lay_ints ns
    show PyData.canLayAll0 (.int n :: pyI ns) = true ∧ PyData.depthAll (.int n :: pyI ns) = 0
    rw [PyData.canLayAll0, PyData.depthAll, a, b]
    exact ⟨rfl, rfl⟩
theorem lay_strs : ∀ ns : List Str, (∀ z ∈ ns, PyData.canLay0 (.str z) = true) → PyData.canLayAll0 (pyS ns) = true ∧ PyData.depthAll (pyS ns) = 0
  | [], _ => ⟨rfl, rfl⟩
  | n :: ns, h => by
    obtain ⟨a, b⟩ := lay_strs ns fun z hz => h z (List.mem_cons_of_mem _ hz)
    have h1 := h n List.mem_cons_self
    show PyData.canLayAll0 (.str n :: pyS ns) = true ∧ PyData.depthAll (.str n :: pyS ns) = 0
    rw [PyData.canLayAll0, PyData.depthAll, a, b, h1]
    exact ⟨rfl, rfl⟩
theorem shp_list {ps : List PyData} (h : PyData.canLayAll0 ps = true ∧ PyData.depthAll ps = 0) : SeqAt.shaped (.list ps) = true := by
  unfold SeqAt.shaped
  rw [PyData.canLay0, PyData.depth, h.1, h.2]
  rfl
theorem shp_tup {ps : List PyData} (h : PyData.canLayAll0 ps = true ∧ PyData.depthAll ps = 0) : SeqAt.shaped (.tuple ps) = true := by
  unfold SeqAt.shaped
  rw [PyData.canLay0, PyData.depth, h.1, h.2]
  rfl
theorem eqv_nil {p : PyData} {ps : List PyData} : PyData.eqv (.list (p :: ps)) (.list []) = false := by rw [PyData.eqv, PyData.eqvAll]
section
variable {X : Cx} {T : TL} {Γ : Gm} {M M1 M2 : MM} {a b : Expr} {pos : Pos} {d1 d2 : Dat} {q : PyData} {p : PyData} {ps : List PyData}
theorem tEqSame (hu : X.A.units + 64 < cLine) (ha : DX X T Γ M a d1 M1) (hb : DX X T Γ M1 b d2 M2) (h1 : d1.py = some q) (h2 : d2.py = some q) (hs : SeqAt.shaped q = true) : TX X T Γ M (.Compare a [.Eq] [b] pos) true M2 :=
  tx_cmp (op_eqD hu) ha hb (nomark _) fun D H x y Q s r1 r2 k => ⟨q, q, r1.py h1 s.ex, r2.py h2 s.ex, hs, hs, by rw [SeqAt.eqv_refl _ (SeqAt.canLay_of_shaped hs)]; exact k⟩
theorem tNeSame (hu : X.A.units + 64 < cLine) (ha : DX X T Γ M a d1 M1) (hb : DX X T Γ M1 b d2 M2) (h1 : d1.py = some q) (h2 : d2.py = some q) (hs : SeqAt.shaped q = true) : TX X T Γ M (.Compare a [.NotEq] [b] pos) false M2 :=
  tx_cmp (op_neD hu) ha hb (nomark _) fun D H x y Q s r1 r2 k => ⟨q, q, r1.py h1 s.ex, r2.py h2 s.ex, hs, hs, by rw [SeqAt.eqv_refl _ (SeqAt.canLay_of_shaped hs)]; exact k⟩
/-- a list that is not empty is not [] -/
theorem tNeNil (hu : X.A.units + 64 < cLine) (ha : DX X T Γ M a d1 M1) (hb : DX X T Γ M1 b (.lst []) M2) (hp : d1.py = some (.list (p :: ps))) (hs : SeqAt.shaped (.list (p :: ps)) = true) : TX X T Γ M (.Compare a [.NotEq] [b] pos) true M2 :=
  tx_cmp (op_neD hu) ha hb (nomark _) fun D H x y Q s r1 r2 k => ⟨_, .list [], r1.py hp s.ex, r2.py rfl s.ex, hs, rfl, by rw [eqv_nil]; exact k⟩
end
section
variable {X : Cx} {T : TL} {Γ : Gm} {M M1 M2 M3 : MM} {e a b c tg : Expr} {n : Nat} {i j : Int} {pos p : Pos}
/-- range(n) -/
theorem ixR (hm : X.mg "range" = none) (h : DX X T Γ M e (.int (n : Nat)) M1) (hn : n < 2 ^ 62) (hg : Gl X "range" := by rfl) (hs : starEach [e] X.env = (false, eval e X.env) :: starEach [] X.env := by rfl) : IX X T Γ M tg (.Call (.Name "range" p) [e] [] pos) n (fun i => .int (i : Nat)) M1 :=
  (ix_range1 hm h (by omega) (by omega) hg hs).congr (by simp) fun i _ => by rw [Int.zero_add]
theorem ixR2 (hm : X.mg "range" = none) (ha : DX X T Γ M a (.int i) M1) (hb : DX X T Γ M1 b (.int j) M2) (hn : j - i = n) (h1 : -(2 ^ 61) ≤ i) (h2 : i < 2 ^ 61) (h3 : n < 2 ^ 61) (hg : Gl X "range" := by rfl)
    (hs : starEach [a, b] X.env = (false, eval a X.env) :: starEach [b] X.env := by rfl) (hs2 : starEach [b] X.env = (false, eval b X.env) :: starEach [] X.env := by rfl) : IX X T Γ M tg (.Call (.Name "range" p) [a, b] [] pos) n (fun m => .int (i + m)) M2 :=
  (ix_range2 hm ha hb (by omega) (by omega) (by omega) (by omega) hg hs hs2).congr (by omega) fun _ _ => rfl
/-- range(i, j, -1) -/
theorem ixDn (hm : X.mg "range" = none) (ha : DX X T Γ M a (.int i) M1) (hb : DX X T Γ M1 b (.int j) M2) (hc : DX X T Γ M2 c (.int (-1)) M3) (hn : i - j = n) (h1 : -(2 ^ 61) ≤ i) (h2 : i < 2 ^ 61) (h3 : n < 2 ^ 61) (hg : Gl X "range" := by rfl)
    (hs : starEach [a, b, c] X.env = (false, eval a X.env) :: starEach [b, c] X.env := by rfl) (hs2 : starEach [b, c] X.env = (false, eval b X.env) :: starEach [c] X.env := by rfl) (hs3 : starEach [c] X.env = (false, eval c X.env) :: starEach [] X.env := by rfl)
    (hpl : (backTo pos (starEach [b, c] X.env)).any (·.1) = false := by rfl) : IX X T Γ M tg (.Call (.Name "range" p) [a, b, c] [] pos) n (fun m => .int (i - m)) M3 :=
  (ix_down hm ha hb hc (by omega) (by omega) (by omega) (by omega) hg hs hs2 hs3 hpl).congr (by omega) fun _ _ => rfl
theorem intsD_map {α : Type} (l : List α) (f : α → Int) : l.map (fun x => Dat.int (f x)) = intsD (l.map f) := by simp [intsD]
/-- [elt for x in iter], whole numbers, nothing changed -/
theorem lcI {scope : Scope} {j n : Nat} {nm : Str} {xs : Nat → Dat} {elt iter : Expr} {k' : Pos} (f : Nat → Int) (hc : X.calm = true) (hN : X.N.Nodup) (hi : IX X T Γ M (.Name nm k') iter n xs M1) (ok : BlkOk X.N X.env.scope scope [(nm, j)])
    (hg : ∀ (s : Shared) (H : Hp) (C : Addr) (cl : List (Str × Addr)) (fp : List Addr), PG (X.blk s H scope (compEnvC scope cl C X.env) fp) (.Name nm k') (gName j)) (hz : n ≤ 1000000)
    (he : ∀ (s : Shared) (H : Hp) (C : Addr) (cl : List (Str × Addr)) (fp : List Addr) i, i < n → DX (X.blk s H scope (compEnvC scope cl C X.env) fp) T (Γ.set j (some (xs i))) M1 elt (.int (f i)) M1) (hj : Γ[j]? = some none := by rfl) (hs : ∀ x, foldedSetIterable iter X.env x = pure x := by intro _; rfl) :
    DX X T Γ M (.ListComp elt [⟨.Name nm k', iter, [], 0⟩] scope pos) (.lst (intsD ((List.range n).map f))) M1 :=
  DX.cast (dx_lc (fun _ => M1) (fun i => .int (f i)) hc hN hi hj ok hg rfl hz he hs) (by rw [intsD_map]) rfl
/-- [elt for x in iter], truth values -/
theorem lcB {scope : Scope} {j n : Nat} {nm : Str} {xs : Nat → Dat} {elt iter : Expr} {k' : Pos} (f : Nat → Bool) (hc : X.calm = true) (hN : X.N.Nodup) (hi : IX X T Γ M (.Name nm k') iter n xs M1) (ok : BlkOk X.N X.env.scope scope [(nm, j)])
    (hg : ∀ (s : Shared) (H : Hp) (C : Addr) (cl : List (Str × Addr)) (fp : List Addr), PG (X.blk s H scope (compEnvC scope cl C X.env) fp) (.Name nm k') (gName j)) (hz : n ≤ 1000000)
    (he : ∀ (s : Shared) (H : Hp) (C : Addr) (cl : List (Str × Addr)) (fp : List Addr) i, i < n → DX (X.blk s H scope (compEnvC scope cl C X.env) fp) T (Γ.set j (some (xs i))) M1 elt (.bl (f i)) M1) (hj : Γ[j]? = some none := by rfl) (hs : ∀ x, foldedSetIterable iter X.env x = pure x := by intro _; rfl) :
    DX X T Γ M (.ListComp elt [⟨.Name nm k', iter, [], 0⟩] scope pos) (.lst (((List.range n).map f).map Dat.bl)) M1 :=
  DX.cast (dx_lc (fun _ => M1) (fun i => .bl (f i)) hc hN hi hj ok hg rfl hz he hs) (by simp) rfl
/-- [elt for x in iter], nothing changed -/
theorem lcD {scope : Scope} {j n : Nat} {nm : Str} {xs : Nat → Dat} {elt iter : Expr} {k' : Pos} (f : Nat → Dat) (hc : X.calm = true) (hN : X.N.Nodup) (hi : IX X T Γ M (.Name nm k') iter n xs M1) (ok : BlkOk X.N X.env.scope scope [(nm, j)])
    (hg : ∀ (s : Shared) (H : Hp) (C : Addr) (cl : List (Str × Addr)) (fp : List Addr), PG (X.blk s H scope (compEnvC scope cl C X.env) fp) (.Name nm k') (gName j)) (hz : n ≤ 1000000)
    (he : ∀ (s : Shared) (H : Hp) (C : Addr) (cl : List (Str × Addr)) (fp : List Addr) i, i < n → DX (X.blk s H scope (compEnvC scope cl C X.env) fp) T (Γ.set j (some (xs i))) M1 elt (f i) M1) (hj : Γ[j]? = some none := by rfl) (hs : ∀ x, foldedSetIterable iter X.env x = pure x := by intro _; rfl) :
    DX X T Γ M (.ListComp elt [⟨.Name nm k', iter, [], 0⟩] scope pos) (.lst ((List.range n).map f)) M1 :=
  dx_lc (fun _ => M1) f hc hN hi hj ok hg rfl hz he hs
end
theorem cutD_take {xs : List Dat} {k : Nat} : cutD xs none (some (k : Int)) = xs.take k := by
  unfold cutD
  rw [HT.sIx_none, HT.sIx_nat, List.drop_zero, Nat.sub_zero]
  apply List.ext_getElem?
  intro i
  simp only [List.getElem?_take]
  by_cases h : i < xs.length
  · by_cases h2 : i < k
    · rw [if_pos (by omega), if_pos h2]
    · rw [if_neg (by omega), if_neg h2]
  · rw [List.getElem?_eq_none (by omega)]; simp
theorem cutD_drop {xs : List Dat} {k : Nat} : cutD xs (some (k : Int)) none = xs.drop k := by
  unfold cutD
  rw [HT.sIx_none, HT.sIx_nat]
  by_cases h : k ≤ xs.length
  · rw [Nat.min_eq_left h, List.take_of_length_le (by rw [List.length_drop]; omega)]
  · rw [Nat.min_eq_right (by omega), List.drop_eq_nil_of_le (Nat.le_refl _), List.drop_eq_nil_of_le (by omega)]; simp
theorem intsD_take {ns : List Int} {k : Nat} : (intsD ns).take k = intsD (ns.take k) := List.map_take.symm
theorem intsD_drop {ns : List Int} {k : Nat} : (intsD ns).drop k = intsD (ns.drop k) := List.map_drop.symm
abbrev FnT (K : PySem.W.Frag) (name qual : Str) (st : Stmt) (f : Addr) : Prop := ∃ fd, FunD K name qual (defArgs st) (defBody st) (defScope st) [] [] f fd
end Da
end
section
set_option autoImplicit false
/-! Arguments that make new mutable things. -/
namespace Da
open PySem PySem.Spec PyProof.Rows L2 StX LamX
def tAsR (K : PySem.W.Frag) (T : TL) (Γ : Gm) (M : MM) (R : List Dat → MM → Prop) : TA := fun σ H Q => ∃ D, Sat K T D M H ∧ Sl K D σ Γ ∧ ∀ vs ds D' M' H', R ds M' → Fw K T M D H M' D' H' → Reps K D' vs ds → Q vs H'
abbrev ARX (X : Cx) (T : TL) (Γ : Gm) (M : MM) (es : List Expr) (R : List Dat → MM → Prop) : Prop := PA X es (tAsR X.K T Γ M R)
section
variable {X : Cx} {T : TL} {Γ : Gm} {M M1 M2 : MM} {e a b c tg : Expr} {es : List Expr} {d : Dat} {R : List Dat → MM → Prop} {R1 : Dat → MM → Prop} {pos p : Pos} {ss : List Stmt} {Ro : Out → Prop}
theorem arx_nil (h : R [] M) : ARX X T Γ M [] R := pa_w pa_nil fun σ H Q ⟨D, s, l, k⟩ => k [] [] D M H h (Fw.refl s) .nil
theorem arx_cons (h1 : RX X T Γ M e R1) (h2 : ∀ d M1, R1 d M1 → ARX X T Γ M1 es fun ds M' => R (d :: ds) M') (hs : starEach (e :: es) X.env = (false, eval e X.env) :: starEach es X.env := by rfl) : ARX X T Γ M (e :: es) R := by
  have h3 : PA X es (fun σ H Q => ∃ d M1, R1 d M1 ∧ tAsR X.K T Γ M1 (fun ds M' => R (d :: ds) M') σ H Q) := ⟨fun pos pins s σ H Q I ⟨d, M1, h, q⟩ => (h2 d M1 h).run pos pins s σ H Q I q⟩
  exact pa_w (pa_cons h1 h3 hs) fun σ H Q ⟨D, s, l, k⟩ => ⟨D, s, l, fun v d D1 M1 H1 hr f1 r1 => ⟨d, M1, hr, D1, f1.sat, l.mono f1.ex, fun vs ds D2 M2 H2 hr2 f2 r2 => k _ _ D2 M2 H2 hr2 (f1.trans f2) (.cons (r1.mono f2.ex) r2)⟩⟩
theorem arx_d (h1 : DX X T Γ M e d M1) (h2 : ARX X T Γ M1 es fun ds M' => R (d :: ds) M') (hs : starEach (e :: es) X.env = (false, eval e X.env) :: starEach es X.env := by rfl) : ARX X T Γ M (e :: es) R :=
  arx_cons (R1 := Is d M1) (DX.toR h1 ⟨rfl, rfl⟩) (fun d' M' ⟨e1, e2⟩ => by subst e1 e2; exact h2) hs
/-- [] that is to change -/
theorem arx_l (h : ∀ p, M p = none → ARX X T Γ (M.set p (.ml [])) es fun ds M' => R (.ptr p :: ds) M') (hs : starEach (.List [] pos :: es) X.env = (false, eval (.List [] pos) X.env) :: starEach es X.env := by rfl) : ARX X T Γ M (.List [] pos :: es) R :=
  arx_cons (rx_lst ax_nil (by simp)) (fun d M' ⟨p, hp, e1, e2⟩ => by subst e1 e2; exact h p hp) hs
theorem rx_tup {x1} (h : ARX X T Γ M es R) (hz : ∀ ds M', R ds M' → ds.length ≤ 1000000) : RX X T Γ M (.Tuple es x1 pos) (fun d M' => ∃ ds, d = .tup ds ∧ R ds M') :=
  pe_w (pe_tup h) fun σ H Q ⟨D, s, l, k⟩ => ⟨D, s, l, fun vs ds D1 M1 H1 hr f1 r1 => ⟨by rw [r1.length, sizeLine_eq]; have := hz ds M1 hr; omega, fun p hp => by
    have f := f1.sat.new hp (.tup vs)
    exact k _ _ _ _ _ ⟨ds, rfl, hr⟩ (f1.trans f) (.tup upd_same (r1.mono f.ex))⟩⟩
/-- the mutable thing in slot k freezes -/
theorem hs_fz (k : Nat) {Γ2 : Gm} {q : Addr} {mo : MO} {Mq : MM} (hm : M q = some mo) (hk : Γ[k]? = some (some (.ptr q))) (hΓ : Γ.set k (some mo.dat) = Γ2) (hM : M.del q = Mq) (h : HS X T Γ2 Mq ss Ro) : HS X T Γ M ss Ro := by
  subst hΓ hM
  refine hs_freeze hm (by simp) (fun i d e => ?_) h
  by_cases hi : k = i
  · subst hi
    have hl : k < Γ.length := by
      have := (List.getElem?_eq_some_iff.mp hk).1
      exact this
    rw [List.getElem?_set_self hl] at e
    cases e
    exact .inr ⟨hk, rfl⟩
  · rw [List.getElem?_set_ne hi] at e
    exact .inl e
theorem hs_asgR (he : RX X T Γ M e R1) (h : ∀ d M1, R1 d M1 → ∃ Γ2 M2, GX X T Γ M1 tg d Γ2 M2 ∧ HS X T Γ2 M2 ss Ro) (hs : swapsWithSole [tg] e pos.line X.env = pure false := by rfl) (hw : swappedStores [tg] e X.env = pure none := by rfl)
    (h1 : (assignEach [tg] X.env).map (·.2) = [assign tg X.env] := by rfl) : HS X T Γ M (.Assign [tg] e pos :: ss) Ro :=
  pss_w (pss_cons (ps_asg he (pg_any (tg := tg)) hs hw h1) pss_any) fun E σ H ⟨D, s, l, k1, k2⟩ => ⟨D, s, l, fun v d D1 M1 H1 hr f1 r1 => by
    obtain ⟨Γ2, M2, hg, hh⟩ := h d M1 hr
    exact ⟨_, hg, D1, f1.sat, l.mono f1.ex, r1, fun σ2 D2 H2 f2 l2 => hs_rest (f1.trans f2) l2 hh k1 k2⟩⟩
theorem hs_parR (i j : Nat) {x y : Str} {px py pt : Pos} {kt k2 pt2} (hc : X.calm = true) (hN : X.N.Nodup) (hi : X.N[i]? = some x) (hj : X.N[j]? = some y) (hij : i ≠ j)
    (hx : X.env.scope.names.lookup x = some .local) (hy : X.env.scope.names.lookup y = some .local) (ha : ARX X T Γ M [a, b] R) (h : ∀ da db M1, R [da, db] M1 → HS X T ((Γ.set i (some da)).set j (some db)) M1 ss Ro) (hl : ∀ ds M', R ds M' → ds.length = 2)
    (hw : swappedStores [.Tuple [.Name x px, .Name y py] kt pt] (.Tuple [a, b] k2 pt2) X.env = pure (some [x, y]) := by rfl)
    (hs : swapsWithSole [.Tuple [.Name x px, .Name y py] kt pt] (.Tuple [a, b] k2 pt2) pos.line X.env = pure false := by rfl) : HS X T Γ M (.Assign [.Tuple [.Name x px, .Name y py] kt pt] (.Tuple [a, b] k2 pt2) pos :: ss) Ro :=
  pss_w (pss_cons (ps_par hc hN hi hj hij hx hy ha hw hs) pss_any) fun E σ H ⟨D, s, l, k1, k2⟩ => ⟨D, s, l, fun vs ds D1 M1 H1 hr f1 r1 => by
    have hl' := hl ds M1 hr
    match ds, hl' with
    | [da, db], _ =>
      obtain ⟨v, w, ev, rv, rw'⟩ := reps2 r1
      exact ⟨v, w, ev, hs_rest f1 (((l.mono f1.ex).set rv).set rw') (h da db M1 hr) k1 k2⟩⟩
theorem hs_par3R (i j k : Nat) {x y z : Str} {px py pz pt : Pos} {kt k2 pt2} (hc : X.calm = true) (hN : X.N.Nodup) (hi : X.N[i]? = some x) (hj : X.N[j]? = some y) (hk : X.N[k]? = some z) (hij : i ≠ j) (hik : i ≠ k) (hjk : j ≠ k)
    (hx : X.env.scope.names.lookup x = some .local) (hy : X.env.scope.names.lookup y = some .local) (hz : X.env.scope.names.lookup z = some .local) (ha : ARX X T Γ M [a, b, c] R) (h : ∀ da db dc M1, R [da, db, dc] M1 → HS X T (((Γ.set i (some da)).set j (some db)).set k (some dc)) M1 ss Ro) (hl : ∀ ds M', R ds M' → ds.length = 3)
    (hw : swappedStores [.Tuple [.Name x px, .Name y py, .Name z pz] kt pt] (.Tuple [a, b, c] k2 pt2) X.env = pure (some [x, y, z]) := by rfl)
    (hs : swapsWithSole [.Tuple [.Name x px, .Name y py, .Name z pz] kt pt] (.Tuple [a, b, c] k2 pt2) pos.line X.env = pure false := by rfl) : HS X T Γ M (.Assign [.Tuple [.Name x px, .Name y py, .Name z pz] kt pt] (.Tuple [a, b, c] k2 pt2) pos :: ss) Ro :=
  pss_w (pss_cons (ps_par3 hc hN hi hj hk hij hik hjk hx hy hz ha hw hs) pss_any) fun E σ H ⟨D, s, l, k1, k2⟩ => ⟨D, s, l, fun vs ds D1 M1 H1 hr f1 r1 => by
    have hl' := hl ds M1 hr
    match ds, hl' with
    | [da, db, dc], _ =>
      obtain ⟨v, w, u, ev, rv, rw', ru⟩ := reps3 r1
      exact ⟨v, w, u, ev, hs_rest f1 ((((l.mono f1.ex).set rv).set rw').set ru) (h da db dc M1 hr) k1 k2⟩⟩
end
end Da
end
section
set_option autoImplicit false
/-! Closures over data; promises that look at the state of the call. -/
namespace Da
open PySem PySem.Spec PyProof.Rows L2 StX LamX NdefX
/-- the captured cells of the closure hold ws -/
def CloSt (A : Around) (h : Heap) (H : Hp) (F : NF) (fr : List Str) (ws : List V) : Prop := CellsAt F.cl fr (ws.map some) h H ∧ Lo.FrOk F.cl A
/-- what a lambda promises: Pl by the captured data -/
def spLm (K : PySem.W.Frag) (T : TL) (Pl : List Dat → PtD) : List (Option V) → Sp := fun wo vs H Q _ => ∃ D M ws wd ds R, wo = ws.map some ∧ Sat K T D M H ∧ Reps K D ws wd ∧ Reps K D vs ds ∧ Pl wd ds M R ∧ ∀ v d M' D' H', R d M' → Fw K T M D H M' D' H' → Rep K D' v d → Q v H'
/-- a promise that looks at the state -/
abbrev PtA := Around → Heap → Hp → PtD
def spA (K : PySem.W.Frag) (T : TL) (P : PtA) : Lo.SpA := fun A s vs H Q E => spD K T (P A s.heap H) vs H Q E
abbrev gmL (N : List Str) (ds wd : List Dat) : Gm := ds.map some ++ (wd.map some ++ List.replicate (N.length - ds.length - wd.length) none)
section
variable {K : PySem.W.Frag} {T : TL} {D : Hp}
theorem sl_startF {N : List Str} {vs ws : List V} {ds wd : List Dat} (r : Reps K D vs ds) (rw' : Reps K D ws wd) : Sl K D (startF N vs (ws.map some)) (gmL N ds wd) := by
  have l1 := r.length
  have l2 := rw'.length
  unfold startF gmL
  refine ⟨by simp [l1, l2], fun i d e => ?_⟩
  by_cases h : i < ds.length
  · rw [List.getElem?_append_left (by simpa using h), List.getElem?_map] at e
    rw [List.getElem?_append_left (by rw [List.length_map, l1]; exact h), List.getElem?_map]
    cases q : ds[i]? with
    | none => rw [q] at e; cases e
    | some d' =>
      rw [q] at e; cases e
      obtain ⟨v, hv, rv⟩ := r.get q
      exact ⟨v, by rw [hv]; rfl, rv⟩
  · rw [List.getElem?_append_right (by simpa using h), List.length_map] at e
    have el : i - (vs.map some).length = i - ds.length := by rw [List.length_map, l1]
    rw [List.getElem?_append_right (by rw [List.length_map, l1]; omega), el]
    by_cases h2 : i - ds.length < wd.length
    · rw [List.getElem?_append_left (by simpa using h2), List.getElem?_map] at e
      rw [List.getElem?_append_left (by rw [List.length_map, l2]; exact h2), List.getElem?_map]
      cases q : wd[i - ds.length]? with
      | none => rw [q] at e; cases e
      | some d' =>
        rw [q] at e; cases e
        obtain ⟨v, hv, rv⟩ := rw'.get q
        exact ⟨v, by rw [hv]; rfl, rv⟩
    · rw [List.getElem?_append_right (by simpa using h2), List.getElem?_replicate] at e
      split at e <;> cases e
end
section
variable {P : Program} {w : World} {K : PySem.W.Frag} {mg : Str → Option Value} {base : Heap} {T : TL} {N ps fr : List Str} {F : NF} {body : Expr} {f : Addr} {k j : Nat} {Pl : List Dat → PtD}
abbrev LmOk (P : Program) (w : World) (K : PySem.W.Frag) (mg : Str → Option Value) (base : Heap) (T : TL) (k : Nat) (f : Addr) (F : NF) (body : Expr) (fr : List Str) (Pl : List Dat → PtD) : Prop := Lo.LamOk P w K mg base CX0 k f F body fr (spLm K T Pl)
theorem LmOk.mono (L : LmOk P w K mg base T j f F body fr Pl) (h : j ≤ k) : LmOk P w K mg base T k f F body fr Pl := ⟨fun A outer s H us vs ws Q E hr => L.run A outer s H us vs ws Q E (hr.mono h)⟩
/-- a lambda by its body -/
theorem lm_ok (S : NScope N ps fr F.scope) (hb : ∀ (pm ctv : Value) (us : List Value), us.length = ps.length → bindArgs (PySem.W.kla_fn F.name F.qual F.params body F.scope F.cl pm (.ref F.c) ctv) ⟨us, []⟩ = pure (ps.zip us)) (hl : ∀ wd ds M R, Pl wd ds M R → ds.length = ps.length)
    (h : ∀ A outer s H E wd ds M R, Room k (A.deeper (envF F f s.heap.objs.size)) → wd.length = fr.length → Pl wd ds M R → RX (ncx CX0 P w K mg base N F f A outer s H E) T (gmL N ds wd) M body R) : LmOk P w K mg base T (k + 1) f F body fr Pl := by
  refine Lo.lamOk_of S hb (fun wo vs H Q E ⟨D, M, ws, wd, ds, R, _, _, _, r, hp, _⟩ => by rw [r.length]; exact hl _ _ _ _ hp) fun A outer s H vs wo Q E hr hlen ⟨D, M, ws, wd, ds, R, e, sa, rw', r, hp, kk⟩ => ?_
  subst e
  exact ⟨_, h A outer s H E wd ds M R hr (by rw [← rw'.length, ← hlen, List.length_map]) hp, D, sa, sl_startF r rw', fun v d D' M' H' hR g rv => kk v d M' D' H' hR g rv⟩
end
section
variable {X : Cx} {T : TL} {Γ : Gm} {M M1 M2 M3 : MM} {e a b c o : Expr} {es : List Expr} {d d1 d2 d3 : Dat} {ds wd : List Dat} {pos p1 p2 apos p lpos : Pos} {i : Nat} {x m : Str} {C f g q : Addr} {k j : Nat} {R : Dat → MM → Prop} {A0 : Around} {F : NF} {fr : List Str} {ws : List V} {body : Expr} {Pl : List Dat → PtD} {P : PtA} {pins : List (Addr × Obj)} {σ : L2.St} {H : Hp} {s : Shared}
/-- what held of the cells at the entry holds still -/
theorem CloSt.later (hC : CloSt A0 X.s_0.heap X.H_0 F fr ws) (hA : A0.frames = some X.outer) (hex : X.ex = []) (I : Inv X pins σ H s) : CloSt X.A s.heap H F fr ws := by
  obtain ⟨h2, h6⟩ := hC
  have nf : ∀ y c, F.cl.lookup y = some c → c ∉ X.fs := fun y c e z => h6 _ hA y c e z
  refine ⟨h2.later nf (fun y c e z => ?_) I, fun l hl y c e z => ?_⟩
  · rw [hex] at z
    cases z
  · have el : l = X.stack := Option.some.inj (hl.symm.trans I.ok.frames)
    subst el
    rcases List.mem_cons.mp (I.stkSub _ z) with q | q
    · obtain ⟨_, v, o, ho, hd⟩ := h2.all y c e
      have lt := Heap.lt_size ho
      have ab := I.ok.above
      rw [← q] at ab
      exact Nat.lt_irrefl _ (Nat.lt_of_lt_of_le lt ab)
    · exact nf y c e q
/-- in the frame of the def that makes it -/
theorem CloSt.made {js : List Nat} (I : Inv X pins σ H s) (c : Caps X F.cl fr js) (hfn : ∀ x, X.fn x = true) (hw : js.map (slotAt σ) = ws.map some) : CloSt X.A s.heap H F fr ws := by
  refine ⟨hw ▸ cells_of I c, fun l hl y a e z => ?_⟩
  have el : l = X.stack := Option.some.inj (hl.symm.trans I.ok.frames)
  subst el
  have e' := c.sub y a e
  rcases List.mem_cons.mp (I.stkSub _ z) with q | q
  · exact I.cne y a e' q
  · obtain ⟨_, o, ho, _⟩ := I.ok.funs.mem q
    exact Nat.lt_irrefl _ (Nat.lt_of_lt_of_le (Heap.lt_size ho) (I.ok.cab y a (hfn y) e'))
/-- f(e, ..), f a name that holds a closure -/
theorem rx_callLam (hex : X.ex = []) (L : LmOk X.prog X.w X.K X.mg X.base T k f F body fr Pl) (hr : Room k X.A) (hA : A0.frames = some X.outer) (hC : CloSt A0 X.s_0.heap X.H_0 F fr ws) (i : Nat) (hN : X.N[i]? = some x) (hv : Vis X.env.scope x) (hg : Γ[i]? = some (some (.clo f F body ws wd)))
    (ha : AX X T Γ M (e :: es) ds M1) (hp : Pl wd ds M1 R)
    (hd : (x == ("__debug__" : Str)) = false := by decide) (hcd : (x == ("__classdict__" : Str)) = false := by decide)
    (he : starEach (e :: es) X.env = (false, eval e X.env) :: starEach es X.env := by rfl) (hpl : (backTo pos (starEach es X.env)).any (·.1) = false := by rfl) :
    RX X T Γ M (.Call (.Name x p) (e :: es) [] pos) R := by
  refine ⟨fun pins s σ H Q I ⟨D, sa, l, kk⟩ => ?_⟩
  obtain ⟨v0, hs, r0⟩ := l.2 i _ hg
  cases r0 with | clo hf hc rw' =>
  have fnat : ∀ {s1 : Shared} {σ1 H1 D1}, Inv X pins σ1 H1 s1 → Ex D D1 → Ex D1 H1 → PySem.W.FnAt f s1.heap := fun I1 e1 e2 => by
    obtain ⟨od, sl, pm, ctv, ho⟩ := Lo.lamO_at I1.hok (e2 _ _ (e1 _ _ hf))
    exact ⟨_, od, _, sl, ho⟩
  refine wpAny_Call_Name_kw (thn ((pe_var (pos := p) hN hv hd hcd).run pins s σ H (fun v H1 => v = .ref f ∧ H1 = H) I ⟨.ref f, hs, rfl, rfl⟩) fun u s1 ⟨v, H1, I1, r1, q1⟩ => ?_)
  obtain ⟨ev, eH⟩ := q1
  subst ev
  rw [eH] at I1
  obtain rfl : u = Value.ref f := r1
  refine PySem.W.callWith_F (first := []) (fnat I1 Ex.refl sa.ex) (thn (ha.run pos pins s1 σ H (fun vs H2 => ∃ D2, Fw X.K T M D H M1 D2 H2 ∧ Reps X.K D2 vs ds) I1 ⟨D, sa, l, fun vs D' H' f1 r1 => ⟨D', f1, r1⟩⟩) fun us s2 ⟨vs, H2, I2, r, D2, f2, r2⟩ => ⟨fnat I2 f2.ex f2.sat.ex, ?_⟩) he hpl
  refine wpAny_call (codeAny_mono (L.run X.A X.stack s2 H2 us vs (ws.map some) Q E0 hr I2.env0 (f2.sat.ex _ _ (f2.ex _ _ hf)) (f2.sat.ex _ _ (f2.ex _ _ hc)) (hC.later hA hex I2).1 r ⟨D2, M1, ws, wd, ds, R, rfl, f2.sat, rw'.mono f2.ex, r2, hp, fun v d M' D' H' hR g rv => kk v d D' M' H' hR (f2.trans g) rv⟩) fun rr s' hq => ?_)
  cases rr with
  | error e => exact hq.elim
  | ok fl =>
    cases fl with
    | ret u => exact I2.after hq
    | next => exact False.elim hq
    | brk => exact False.elim hq
    | cont => exact False.elim hq
end
end Da
end
section
set_option autoImplicit false
/-! Calls by promises that look at the state; lambdas as arguments. -/
namespace Da
open PySem PySem.Spec PyProof.Rows L2 StX LamX NdefX
section
variable {Pg : Program} {w : World} {K : PySem.W.Frag} {mg : Str → Option Value} {base : Heap} {T : TL} {x qual : Str} {params : Arguments} {body : List Stmt} {scope : Scope} {N ps : List Str} {f : Addr} {fd : FuncData} {k : Nat} {P : PtA}
abbrev FnL (Pg : Program) (w : World) (K : PySem.W.Frag) (mg : Str → Option Value) (base : Heap) (T : TL) (k : Nat) (f : Addr) (P : PtA) : Prop := Lo.FnA Pg w K mg base CX0 k f (spA K T P)
theorem fdA_ok (F : FunD K x qual params body scope [] [] f fd) (S : FnScope N ps scope) (hb : Binds K fd ps []) (hl : ∀ A h H ds M R, P A h H ds M R → ds.length = ps.length)
    (h : ∀ cdv A outer s H E ds M R, Room k (A.deeper (envOfC qual scope s.heap.objs.size f cdv)) → A.frames = some outer → P A s.heap H ds M R → HS (cxOf CX0 Pg w K mg base N qual scope f cdv A outer s H E).nox T (gm0 N ds) M body (retR R)) : FnL Pg w K mg base T (k + 1) f P := by
  obtain ⟨oc, od, dV, kV, doc, pm, an, cdv, ct, osl, rfl, lk, hcd, _, _⟩ := F.ex
  intro A outer s H us vs Q E hr e0 r ⟨D, M, ds, R, sa, rs, hp, kk⟩
  have l1 : vs.length = ps.length := by rw [rs.length]; exact hl _ _ _ _ _ _ hp
  have l2 : us.length = ps.length := by rw [← r.length]; exact l1
  have kin : K.In s.heap := e0.mod.kin.keeps fun b o e => (e0.bs b o e).1
  have hb' := hb s us kin (by rw [List.append_nil]; exact l2)
  rw [List.append_nil] at hb'
  exact run_ofS lk hcd S hr e0 hb' r l1 fun hr' => body_ok (h cdv A outer s H E ds M R hr' e0.frames hp) sa rs kk
theorem FnL.mono {j : Nat} (F : FnL Pg w K mg base T j f P) (h : j ≤ k) : FnL Pg w K mg base T k f P := Lo.FnA.mono F h
end
section
variable {X : Cx} {T : TL} {Γ : Gm} {M M1 M2 M3 : MM} {e a b c o : Expr} {es : List Expr} {d d1 d2 d3 : Dat} {ds wd : List Dat} {pos p1 p2 apos p lpos : Pos} {i : Nat} {x m : Str} {C f g q : Addr} {k j : Nat} {R : Dat → MM → Prop} {P : PtA}
/-- f(e, ..) -/
theorem rx_callA (F : FnL X.prog X.w X.K X.mg X.base T k f P) (hr : Room k X.A) (hm : X.mg x = some (.ref f)) (hk : PySem.W.keepIn X.K (.ref f) = true) (ha : AX X T Γ M (e :: es) ds M1) (hp : ∀ pins s σ H, Inv X pins σ H s → P X.A s.heap H ds M1 R) (hg : Gl X x := by rfl)
    (hd : (x == ("__debug__" : Str)) = false := by decide) (he : starEach (e :: es) X.env = (false, eval e X.env) :: starEach es X.env := by rfl) (hpl : (backTo pos (starEach es X.env)).any (·.1) = false := by rfl) : RX X T Γ M (.Call (.Name x p1) (e :: es) [] pos) R :=
  pe_w (Lo.pe_callA (E := E0) (sp0 := spD X.K T fun ds M R => ∀ pins s σ H, Inv X pins σ H s → P X.A s.heap H ds M R) F (fun pins s σ H vs Q I ⟨D, M, ds, R, sa, r, hp, kk⟩ => ⟨D, M, ds, R, sa, r, hp _ _ _ _ I, kk⟩) hr hg hm hk pass0 ha hd he hpl)
    fun σ H Q ⟨D, s, l, kk⟩ => ⟨D, s, l, fun vs D1 H1 f1 r1 => spD_of f1.sat r1 hp fun v d M' D' H' hR g rv => kk v d D' M' H' hR (f1.trans g) rv⟩
/-- o.m(e, ..) -/
theorem rx_methA {pl : Sem Bool} (F : FnL X.prog X.w X.K X.mg X.base T k f P) (hr : Room k X.A) (c : Cls X.K C) (hm : Meth X.K C m f) (ho : DX X T Γ M o d1 M1) (hi : InsD C m d1 M1) (ha : AX X T Γ M1 (e :: es) ds M2) (hp : ∀ pins s σ H, Inv X pins σ H s → P X.A s.heap H (d1 :: ds) M2 R)
    (hst : starEach (e :: es) X.env = (false, eval e X.env) :: starEach es X.env := by rfl) (hpl : (backTo pos (starEach es X.env)).any (·.1) = false := by rfl)
    (ht : eval (.Call (.Attribute o m apos) (e :: es) [] pos) X.env = (do
      let ov ← eval o X.env
      standAt apos.atName
      let (f, first) ← holding [ov] (getMethod ov m pl)
      callWith pos f first (backTo pos (starEach (e :: es) X.env)) (backToKw pos (keywordEach [] X.env))) := by rfl) :
    RX X T Γ M (.Call (.Attribute o m apos) (e :: es) [] pos) R :=
  pe_w (Lo.pe_methA (pl := pl) (E := E0) (sp0 := spD X.K T fun ds M R => ∀ pins s σ H, Inv X pins σ H s → P X.A s.heap H ds M R) ho c hm F (fun pins s σ H vs Q I ⟨D, M, ds, R, sa, r, hp, kk⟩ => ⟨D, M, ds, R, sa, r, hp _ _ _ _ I, kk⟩) hr pass0 ha hst hpl ht)
    fun σ H Q ⟨D, s, l, kk⟩ => ⟨D, s, l, fun v D1 H1 f1 r1 => by
      obtain ⟨a, dx, fs, ev, ha, hl⟩ := hi.at f1.sat r1
      subst ev
      exact ⟨a, dx, fs, rfl, ha, hl, D1, f1.sat, l.mono f1.ex, fun vs D2 H2 f2 r2 => spD_of (E := E0) f2.sat (.cons (r1.mono f2.ex) r2) hp fun v d M' D' H' hR g rv => kk v d D' M' H' hR ((f1.trans f2).trans g) rv⟩⟩
/-! lambdas among the arguments -/
/-- a lambda was made -/
theorem Sat.lam {K : PySem.W.Frag} {D H H1 : Hp} {f c' : Addr} {F : NF} {body : Expr} (s : Sat K T D M H) (e1 : ExtN H H1) (e2 : ∀ b, H1 b = Option.none → H b = Option.none) (tb : Tabs T H1) (nf : H f = none) (hf : H1 f = some (Lo.LamO f F body)) (hc : H1 c' = some (CodeO c' F.qual)) (hne : c' ≠ f) :
    ∃ D1, Fw K T M D H M D1 H1 ∧ D1 f = some (Lo.LamO f F body) ∧ D1 c' = some (CodeO c' F.qual) := by
  have hfc : D f = none := s.ex.nil nf
  have keep : ∀ a o, D a = some o → H1 a = some o := fun a o h => e1 a o (s.ex a o h) fun ps z => s.nt a ps (by rw [h, z])
  let D1 : Hp := fun a => if a = f then some (Lo.LamO f F body) else if a = c' then some (CodeO c' F.qual) else D a
  have ex : Ex D D1 := fun a o h => by
    show (if a = f then _ else if a = c' then _ else D a) = some o
    by_cases h1 : a = f
    · rw [h1, hfc] at h; cases h
    · rw [if_neg h1]
      by_cases h2 : a = c'
      · rw [if_pos h2]
        have := keep a o h
        rw [h2, hc] at this
        exact this
      · rw [if_neg h2]; exact h
  have ex1 : Ex D1 H1 := fun a o h => by
    replace h : (if a = f then some (Lo.LamO f F body) else if a = c' then some (CodeO c' F.qual) else D a) = some o := h
    by_cases h1 : a = f
    · rw [if_pos h1] at h; rw [h1, hf]; exact h
    · rw [if_neg h1] at h
      by_cases h2 : a = c'
      · rw [if_pos h2] at h; rw [h2, hc]; exact h
      · rw [if_neg h2] at h; exact keep a o h
  have nm : ∀ q mo, M q = some mo → q ≠ f ∧ q ≠ c' := fun q mo hq => by
    obtain ⟨u, hu, n1, n2, _⟩ := (s.mu q mo hq).2.some
    refine ⟨fun z => (by rw [z, nf] at hu; cases hu), fun z => ?_⟩
    have := e1 q u hu n1
    rw [z, hc] at this
    exact n2 _ (Option.some.inj this).symm
  have fcne : ∀ a o, H a = some o → (∀ φ, o ≠ .ext φ) → (∀ ps, o ≠ .tbl ps) → a ≠ f ∧ a ≠ c' := fun a o h n2 n1 => by
    refine ⟨fun z => (by rw [z, nf] at h; cases h), fun z => ?_⟩
    have := e1 a o h n1
    rw [z, hc] at this
    exact n2 _ (Option.some.inj this).symm
  refine ⟨D1, ⟨ex, ⟨ex1, fun q mo hq => ?_, tb, fun a ps z => ?_⟩, fun a o h m n => e1 a o h n, fun a o h m => ⟨m, ?_⟩, fun a o h m d n1 n2 => ?_⟩, ?_, ?_⟩
  · obtain ⟨n1, n2⟩ := nm q mo hq
    obtain ⟨a1, a2⟩ := s.mu q mo hq
    refine ⟨?_, a2.mono ex fun u hu => ?_⟩
    · show (if q = f then _ else if q = c' then _ else D q) = none
      rw [if_neg n1, if_neg n2]; exact a1
    · obtain ⟨u', hu', n1, n2, _⟩ := a2.some
      rw [hu'] at hu; cases hu
      exact e1 q _ hu' n1
  · replace z : (if a = f then some (Lo.LamO f F body) else if a = c' then some (CodeO c' F.qual) else D a) = some (.tbl ps) := z
    by_cases h1 : a = f
    · rw [if_pos h1] at z; unfold Lo.LamO at z; cases z
    · rw [if_neg h1] at z
      by_cases h2 : a = c'
      · rw [if_pos h2] at z; unfold CodeO at z; cases z
      · rw [if_neg h2] at z; exact s.nt a ps z
  · cases h1 : H1 a with
    | none => rw [e2 a h1] at h; cases h
    | some o' => exact ⟨o', rfl⟩
  · obtain ⟨h1, h2⟩ := fcne a o h n2 n1
    show (if a = f then _ else if a = c' then _ else D a) = none
    rw [if_neg h1, if_neg h2]; exact d
  · show (if f = f then _ else _) = _
    rw [if_pos rfl]
  · show (if c' = f then _ else if c' = c' then _ else D c') = _
    rw [if_neg hne, if_pos rfl]
/-- the first argument is a lambda -/
def tLA (K : PySem.W.Frag) (T : TL) (Γ : Gm) (M : MM) (js : List Nat) (mk : Addr → NF) (body : Expr) (wd ds : List Dat) (M' : MM) : TA := fun σ H Q => ∃ D, Sat K T D M H ∧ Sl K D σ Γ ∧ ∀ f c' ws vs D' H', js.map (slotAt σ) = ws.map some → Fw K T M D H M' D' H' → Rep K D' (.ref f) (.clo f (mk c') body ws wd) → Reps K D' vs ds → Q (.ref f :: vs) H'
theorem Sl.caught {K : PySem.W.Frag} {D : Hp} {σ : L2.St} (l : Sl K D σ Γ) : ∀ {js : List Nat} {wd : List Dat}, js.map (fun j => Γ[j]?) = wd.map (fun d => some (some d)) → ∃ ws : List V, js.map (slotAt σ) = ws.map some ∧ Reps K D ws wd
  | [], [], _ => ⟨[], rfl, .nil⟩
  | [], _ :: _, e => by cases e
  | _ :: _, [], e => by cases e
  | j :: js, d :: wd, e => by
    rw [List.map_cons, List.map_cons] at e
    injection e with e1 e2
    obtain ⟨v, hv, rv⟩ := l.2 j d e1
    obtain ⟨ws, hw, rw'⟩ := Sl.caught l e2
    refine ⟨v :: ws, ?_, .cons rv rw'⟩
    rw [List.map_cons, List.map_cons, hw]
    unfold NdefX.slotAt
    rw [hv]
section
variable {T : TL} {cc PP : Addr} {params : Arguments} {body : Expr} {scope : Scope} {js : List Nat}
theorem pa_lamD (TB : TabB X.base X.mg cc PP) (hcode : X.env.code = .ref cc) (hmT : (PP, X.env.qual ++ "<lambda>") ∈ T) (hu : ∀ p ∈ T, p.1 = PP → p.2 = X.env.qual ++ "<lambda>") (hdef : defaultsOf params X.env = ([], []))
    (hfr : ∀ y ∈ scope.names, y.2 = .free → X.env.scope.names.lookup y.1 = some .cell ∨ X.env.scope.names.lookup y.1 = some .free) (hwd : js.map (fun j => Γ[j]?) = wd.map (fun d => some (some d))) (ha : AX X T Γ M es ds M1)
    (hs : starEach (.Lambda params body scope lpos :: es) X.env = (false, eval (.Lambda params body scope lpos) X.env) :: starEach es X.env := by rfl) :
    PA X (.Lambda params body scope lpos :: es) (tLA X.K T Γ M js (Lo.lamF X params scope) body wd ds M1) :=
  pa_w (pa_cons (Lo.pe_lam TB hcode hmT hu hdef hfr) ha hs) fun σ H Q ⟨D, s, l, kk⟩ => ⟨s.tb, fun f c' H1 e1 e2 tb nf hf hc hne => by
    obtain ⟨ws, hw, rws⟩ := l.caught hwd
    obtain ⟨D1, f1, d1, d2⟩ := s.lam (F := Lo.lamF X params scope c') (body := body) e1 e2 tb nf hf hc hne
    exact ⟨D1, f1.sat, l.mono f1.ex, fun vs D2 H2 f2 r2 => kk f c' ws vs D2 H2 hw (f1.trans f2) (.clo (f2.ex _ _ d1) (f2.ex _ _ d2) (rws.mono (f1.ex.trans f2.ex))) r2⟩⟩
/-- o.m(lambda .., e, ..) -/
theorem rx_methLam {pl : Sem Bool} (F : FnL X.prog X.w X.K X.mg X.base T k f P) (hr : Room k X.A) (c : Cls X.K C) (hm : Meth X.K C m f) (ho : DX X T Γ M o d1 M1) (hi : InsD C m d1 M1)
    (ha : PA X (.Lambda params body scope lpos :: es) (tLA X.K T Γ M1 js (Lo.lamF X params scope) body wd ds M2))
    (hp : ∀ pins s σ H f' c' ws, Inv X pins σ H s → js.map (slotAt σ) = ws.map some → P X.A s.heap H (d1 :: .clo f' (Lo.lamF X params scope c') body ws wd :: ds) M2 R)
    (hst : starEach (.Lambda params body scope lpos :: es) X.env = (false, eval (.Lambda params body scope lpos) X.env) :: starEach es X.env := by rfl) (hpl : (backTo pos (starEach es X.env)).any (·.1) = false := by rfl)
    (ht : eval (.Call (.Attribute o m apos) (.Lambda params body scope lpos :: es) [] pos) X.env = (do
      let ov ← eval o X.env
      standAt apos.atName
      let (f, first) ← holding [ov] (getMethod ov m pl)
      callWith pos f first (backTo pos (starEach (.Lambda params body scope lpos :: es) X.env)) (backToKw pos (keywordEach [] X.env))) := by rfl) :
    RX X T Γ M (.Call (.Attribute o m apos) (.Lambda params body scope lpos :: es) [] pos) R := by
  refine ⟨fun pins s σ H Q I ⟨D, sa, l, kk⟩ => ?_⟩
  refine PySem.W.methodCall_KW (pl := pl) (thn (ho.run pins s σ H (fun v H1 => ∃ D1, Fw X.K T M D H M1 D1 H1 ∧ Rep X.K D1 v d1) I ⟨D, sa, l, fun v D1 H1 f1 r1 => ⟨D1, f1, r1⟩⟩) fun u s1 ⟨x, H1, I1, rx, D1, f1, r1⟩ => ?_) ht
  obtain ⟨a, dx, fs, ev, hea, hl⟩ := hi.at f1.sat r1
  subst ev
  obtain rfl : u = Value.ref a := rx
  refine getmeth_ok I1 hea c hm hl ?_
  refine PySem.W.callWith_K (first := [.ref a]) (h₀ := X.base) I.ok.mod.kin hm.kp (thn (ha.run pos pins s1 σ H1 (fun vs H2 => ∃ f' c' ws vs' D2, vs = .ref f' :: vs' ∧ js.map (slotAt σ) = ws.map some ∧ Fw X.K T M1 D1 H1 M2 D2 H2 ∧ Rep X.K D2 (.ref f') (.clo f' (Lo.lamF X params scope c') body ws wd) ∧ Reps X.K D2 vs' ds) I1
    ⟨D1, f1.sat, l.mono f1.ex, fun f' c' ws vs' D2 H2 hw f2 r2 r3 => ⟨f', c', ws, vs', D2, rfl, hw, f2, r2, r3⟩⟩) fun us s2 ⟨vs, H2, I2, r, f', c', ws, vs', D2, ev, hw, f2, r2, r3⟩ => ⟨I2.kIn, ?_⟩) hst hpl
  subst ev
  exact wpAny_call (Lo.run_fnA (us := .ref a :: us) (vs := .ref a :: .ref f' :: vs') (E := E0) F hr pass0 I2 (.cons rfl r) (spD_of f2.sat (.cons (r1.mono f2.ex) (.cons r2 r3)) (hp _ _ _ _ f' c' ws I2 hw) fun v d M' D' H' hR g rv => kk v d D' M' H' hR ((f1.trans f2).trans g) rv))
/-- f(lambda .., e, ..) -/
theorem rx_callLamA (F : FnL X.prog X.w X.K X.mg X.base T k f P) (hr : Room k X.A) (hm : X.mg x = some (.ref f)) (hk : PySem.W.keepIn X.K (.ref f) = true)
    (ha : PA X (.Lambda params body scope lpos :: es) (tLA X.K T Γ M js (Lo.lamF X params scope) body wd ds M2))
    (hp : ∀ pins s σ H f' c' ws, Inv X pins σ H s → js.map (slotAt σ) = ws.map some → P X.A s.heap H (.clo f' (Lo.lamF X params scope c') body ws wd :: ds) M2 R) (hg : Gl X x := by rfl)
    (hd : (x == ("__debug__" : Str)) = false := by decide) (hst : starEach (.Lambda params body scope lpos :: es) X.env = (false, eval (.Lambda params body scope lpos) X.env) :: starEach es X.env := by rfl) (hpl : (backTo pos (starEach es X.env)).any (·.1) = false := by rfl) :
    RX X T Γ M (.Call (.Name x p1) (.Lambda params body scope lpos :: es) [] pos) R := by
  refine ⟨fun pins s σ H Q I ⟨D, sa, l, kk⟩ => ?_⟩
  refine wpAny_Call_Name_kw (ld_glob I hg hm ?_ hd)
  refine PySem.W.callWith_K (h₀ := X.base) I.ok.mod.kin hk (thn (ha.run pos pins s σ H (fun vs H2 => ∃ f' c' ws vs' D2, vs = .ref f' :: vs' ∧ js.map (slotAt σ) = ws.map some ∧ Fw X.K T M D H M2 D2 H2 ∧ Rep X.K D2 (.ref f') (.clo f' (Lo.lamF X params scope c') body ws wd) ∧ Reps X.K D2 vs' ds) I
    ⟨D, sa, l, fun f' c' ws vs' D2 H2 hw f2 r2 r3 => ⟨f', c', ws, vs', D2, rfl, hw, f2, r2, r3⟩⟩) fun us s2 ⟨vs, H2, I2, r, f', c', ws, vs', D2, ev, hw, f2, r2, r3⟩ => ⟨I2.kIn, ?_⟩) hst hpl
  subst ev
  exact wpAny_call (Lo.run_fnA (us := us) (vs := .ref f' :: vs') (E := E0) F hr pass0 I2 r (spD_of f2.sat (.cons r2 r3) (hp _ _ _ _ f' c' ws I2 hw) fun v d M' D' H' hR g rv => kk v d D' M' H' hR (f2.trans g) rv))
end
end
end Da
end
section
set_option autoImplicit false
/-! try .. except that catches nothing, try .. finally. -/
namespace Da
open PySem PySem.Spec PyProof.Rows L2 StX LamX NdefX
/-- no return: what follows -/
def onlyR (J : Gm → MM → Prop) : Out → Prop
  | .nx Γ M => J Γ M
  | .rt _ _ => False
section
variable {X : Cx} {T : TL} {Γ Γ1 Γ2 Γ3 : Gm} {M M1 M2 M3 : MM} {e : Expr} {d : Dat} {pos p : Pos} {st : Stmt} {ss body els fin : List Stmt} {R R1 : Out → Prop} {h0 : ExceptHandler} {hs : List ExceptHandler}
theorem hs_try (h : HS X.nox T Γ M body (thenR X T ss R)) : HS X T Γ M (.Try body (h0 :: hs) [] [] pos :: ss) R :=
  pss_w (pss_cons (ps_try_thru0 h) (pss_any (ss := ss))) fun E σ H ⟨D, s, l, k1, k2⟩ => ⟨D, s, l, fun σ' Γ' M' D' H' r g l' => hs_rest g l' r k1 k2, fun v d M' D' H' r g rv => k2 v d M' D' H' r g rv⟩
theorem hs_fin {f0 : Stmt} (h : HS X.nox T Γ M body (onlyR fun Γ1 M1 => HS X.nox T Γ1 M1 (f0 :: fin) (onlyR fun Γ2 M2 => HS X T Γ2 M2 ss R))) : HS X T Γ M (.Try body [] [] (f0 :: fin) pos :: ss) R := by
  refine pss_w (pss_cons (Lo.ps_fin_thru h (pss_any (X := X.nox) (ss := f0 :: fin))) (pss_any (ss := ss))) fun E σ H ⟨D, s, l, k1, k2⟩ => ⟨D, s, l, fun σ' Γ' M' D' H' r g l' => ?_, fun v d M' D' H' r g rv => r.elim⟩
  exact ⟨_, r, D', g.sat, l', fun σ2 Γ2 M2 D2 H2 r2 g2 l2 => hs_rest (g.trans g2) l2 r2 k1 k2, fun v d M' D' H' r g rv => r.elim⟩
theorem hs_retFin {f0 : Stmt} {Rx : Dat → MM → Prop} (he : RX X.nox T Γ M e Rx) (h : ∀ d M1, Rx d M1 → HS X.nox T Γ M1 (f0 :: fin) (onlyR fun Γ2 M2 => R (.rt d M2))) : HS X T Γ M (.Try [.Return (some e) p] [] [] (f0 :: fin) pos :: ss) R := by
  refine pss_w (pss_cons (ps_retFin he (pss_any (X := X.nox) (ss := f0 :: fin))) (pss_never (sts := ss))) fun E σ H ⟨D, s, l, k1, k2⟩ => ⟨D, s, l, fun v d D1 M1 H1 hr f1 r1 => ?_⟩
  exact ⟨_, h d M1 hr, D1, f1.sat, l.mono f1.ex, fun σ2 Γ2 M2 D2 H2 r2 g2 l2 => k2 v d M2 D2 H2 r2 (f1.trans g2) (r1.mono g2.ex), fun v d M' D' H' r g rv => r.elim⟩
end
end Da
end
section
set_option autoImplicit false
/-! Defs that make lambdas. -/
namespace Da
open PySem PySem.Spec PyProof.Rows L2 StX LamX NdefX
/-- the def at f has the code object cc -/
def CodeAt (K : PySem.W.Frag) (f cc : Addr) : Prop := ∀ (oc : Value) (od : Option Addr) (x q : Str) (params : Arguments) (body : List Stmt) (scope : Scope) (dV kV doc pm : Value) (an : Option Addr) (cdv ct : Value) (osl : Array (Option Value)),
  K.lookup f = some ⟨oc, od, .func (PySem.W.fnOf x q params body scope dV kV doc pm an cdv ct), osl⟩ → cdv = .ref cc
/-- its table of code objects, for lambdas -/
structure LmT (K : PySem.W.Frag) (mg : Str → Option Value) (base : Heap) (T : TL) (f cc PP : Addr) (q : Str) : Prop where
  code : CodeAt K f cc
  tb : TabB base mg cc PP
  mem : (PP, q) ∈ T
  uni : ∀ p ∈ T, p.1 = PP → p.2 = q
section
variable {Pg : Program} {w : World} {K : PySem.W.Frag} {mg : Str → Option Value} {base : Heap} {T : TL} {x qual : Str} {params : Arguments} {body : List Stmt} {scope : Scope} {N ps : List Str} {f cc : Addr} {fd : FuncData} {k : Nat} {P : PtD} {PA : PtA}
theorem fd_okC (hc : CodeAt K f cc) (F : FunD K x qual params body scope [] [] f fd) (S : FnScope N ps scope) (hb : Binds K fd ps []) (hl : ∀ ds M R, P ds M R → ds.length = ps.length)
    (h : ∀ A outer s H E ds M R, Room k (A.deeper (envOfC qual scope s.heap.objs.size f (.ref cc))) → P ds M R → HS (cxOf CX0 Pg w K mg base N qual scope f (.ref cc) A outer s H E).nox T (gm0 N ds) M body (retR R)) : FnR Pg w K mg base CX0 (k + 1) f (spD K T P) := by
  have G : FnOk Pg w K mg base CX0 (k + 1) f fd ps (spD K T P) := by
    obtain ⟨oc, od, dV, kV, doc, pm, an, cdv, ct, osl, rfl, lk, hcd, _, _⟩ := F.ex
    cases hc _ _ _ _ _ _ _ _ _ _ _ _ _ _ _ lk
    exact fn_of lk hcd S (fun vs H Q E ⟨D, M, ds, R, s, r, hp, kk⟩ => by rw [r.length]; exact hl ds M R hp) fun A outer s H vs Q E hr ⟨D, M, ds, R, sa, r, hp, kk⟩ => body_ok (h A outer s H E ds M R hr hp) sa r kk
  exact (G.raw hb .nil).imp fun vs H Q E z => by rw [List.append_nil]; exact z
theorem fdA_okC (hc : CodeAt K f cc) (F : FunD K x qual params body scope [] [] f fd) (S : FnScope N ps scope) (hb : Binds K fd ps []) (hl : ∀ A h H ds M R, PA A h H ds M R → ds.length = ps.length)
    (h : ∀ A outer s H E ds M R, Room k (A.deeper (envOfC qual scope s.heap.objs.size f (.ref cc))) → A.frames = some outer → PA A s.heap H ds M R → HS (cxOf CX0 Pg w K mg base N qual scope f (.ref cc) A outer s H E).nox T (gm0 N ds) M body (retR R)) : FnL Pg w K mg base T (k + 1) f PA := by
  obtain ⟨oc, od, dV, kV, doc, pm, an, cdv, ct, osl, rfl, lk, hcd, _, _⟩ := F.ex
  cases hc _ _ _ _ _ _ _ _ _ _ _ _ _ _ _ lk
  intro A outer s H us vs Q E hr e0 r ⟨D, M, ds, R, sa, rs, hp, kk⟩
  have l1 : vs.length = ps.length := by rw [rs.length]; exact hl _ _ _ _ _ _ hp
  have l2 : us.length = ps.length := by rw [← r.length]; exact l1
  have kin : K.In s.heap := e0.mod.kin.keeps fun b o e => (e0.bs b o e).1
  have hb' := hb s us kin (by rw [List.append_nil]; exact l2)
  rw [List.append_nil] at hb'
  exact run_ofS lk hcd S hr e0 hb' r l1 fun hr' => body_ok (h A outer s H E ds M R hr' e0.frames hp) sa rs kk
end
end Da
end
section
set_option autoImplicit false
/-! repr of data, texts compared, != by an own __eq__. -/
namespace Da
open PySem PySem.Spec PyProof.Rows L2 StX LamX NdefX
/-- it is a list or a tuple -/
def Dat.isSeq : Dat → Bool
  | .lst _ => true
  | .tup _ => true
  | _ => false
theorem Rep.seqRef {K : PySem.W.Frag} {D : Hp} {v : V} {d : Dat} (h : Rep K D v d) (e : d.isSeq = true) : ∃ p, v = .ref p := by
  cases h with
  | lst _ _ => exact ⟨_, rfl⟩
  | tup _ _ => exact ⟨_, rfl⟩
  | _ => cases e
section
variable {X : Cx} {T : TL} {Γ : Gm} {M M1 M2 M3 : MM} {a b e : Expr} {d d1 d2 : Dat} {pos p1 : Pos} {py : PyData} {z : Str} {C g : Addr} {k : Nat} {P : PtD} {fs gs : List (Str × Dat)} {bb : Bool}
theorem dx_repr (hg : X.A.guards = some []) (hu : X.A.units + 64 < cLine) (hm : X.mg "repr" = none) (ha : DX X T Γ M e d M1) (hs : d.isSeq = true) (hp : d.py = some py) (h1 : py.showable = true) (h2 : py.hasDict = false) (h3 : py.shown.length ≤ sizeLine) (h4 : py.depth ≤ 8) (hgl : Gl X "repr" := by rfl)
    (he : starEach [e] X.env = (false, eval e X.env) :: starEach [] X.env := by rfl) : DX X T Γ M (.Call (.Name "repr" p1) [e] [] pos) (.str py.shown) M1 :=
  dx_callB (Lo.call_reprD hg hu) hm (by decide +kernel) (ax_cons ha ax_nil he) (fun D H vs Q s r k => by
    obtain ⟨v, ev, rv⟩ := reps1 r
    obtain ⟨p, ep⟩ := rv.seqRef hs
    subst ev ep
    exact ⟨p, py, rfl, rv.py hp s.ex, h1, h2, h3, h4, k _ D H (Fw.refl s) .at⟩) hgl (he := he)
theorem tStrNe {y z : Str} (ha : DX X T Γ M a (.str y) M1) (hb : DX X T Γ M1 b (.str z) M2) (hz : bb = !decide (y = z)) : TX X T Γ M (.Compare a [.NotEq] [b] pos) bb M2 :=
  tx_cmp op_ne ha hb (nomark _) fun D H x y Q s r1 r2 k => by
    cases r1
    cases r2
    refine ⟨rfl, ?_⟩
    subst hz
    have e : ∀ u w : Str, decide (V.str u = V.str w) = decide (u = w) := fun u w => by by_cases h : u = w <;> simp [h]
    rw [e]
    exact k
theorem tNeOwn (hm : PySem.W.mroIn X.K C (.type "object") = some true) (hn : PySem.W.findIn X.K (.ref C) "__ne__" = some (some (.builtin "object.__ne__"))) (hs : PySem.W.findIn X.K (.ref C) "__eq__" = some (some (.ref g))) (hf : PySem.W.isFn X.K (.ref g) = true)
    (F : FnR X.prog X.w X.K X.mg X.base CX0 k g (spD X.K T P)) (hr : Room (k + 1) X.A) (ha : DX X T Γ M a (.ins C fs) M1) (hb : DX X T Γ M1 b (.ins C gs) M2) (hp : P [.ins C fs, .ins C gs] M2 (Is (.bl bb) M2)) : TX X T Γ M (.Compare a [.NotEq] [b] pos) (!bb) M2 :=
  pt_w (pt_cmpR (Lo.op_neOwn (E := Da.E0) hm hn hs hf F hr fun _ _ _ _ z => z.elim) ha hb (nomark _)) fun σ H Q ⟨D, s, l, kk⟩ => ⟨D, s, l, fun x D1 H1 f1 r1 => ⟨D1, f1.sat, l.mono f1.ex, fun y D2 H2 f2 r2 => by
    have r1' := r1.mono f2.ex
    cases r1' with | ins e1 q1 =>
    cases r2 with | ins e2 q2 =>
    refine ⟨_, _, _, _, _, _, rfl, rfl, f2.sat.ex _ _ e1, f2.sat.ex _ _ e2, spD_of f2.sat (.cons (.ins e1 q1) (.cons (.ins e2 q2) .nil)) hp fun v d' M' D' H' hR g' rv => ?_⟩
    obtain ⟨h1, h2⟩ := hR
    subst h1 h2
    cases rv
    exact ⟨bb, rfl, !bb, rfl, kk D' H' ((f1.trans f2).trans g')⟩⟩⟩
end
end Da
end
section
set_option autoImplicit false
/-! A raising closure, a caught exception among data. -/
namespace Da
open PySem PySem.Spec PyProof.Rows L2 StX LamX NdefX
/-- a closure without parameters that raises: C's object with the fields fs -/
def spLmX (K : PySem.W.Frag) (T : TL) (P : List Dat → MM → Prop) (C : Addr) (fs : List Dat → List (Str × V)) : List (Option V) → Sp := fun wo vs H _ E => ∃ D M ws wd, wo = ws.map some ∧ vs = [] ∧ Sat K T D M H ∧ Reps K D ws wd ∧ P wd M ∧
  ∀ D' H' dx, Fw K T M D H M D' H' → D' dx = some (.xd (fs wd)) → E (.ref C) (some dx) H'
/-- the caught one -/
abbrev caught (a dd C : Addr) (fs : List (Str × V)) : Dat := .obj a [(a, Lo.exq a (.ref C) (some dd)), (dd, .xd fs)]
section
variable {X : Cx} {T : TL} {Γ : Gm} {M M1 M2 M3 : MM} {f : Addr} {F : NF} {body : Expr} {fr : List Str} {ws : List V} {wd : List Dat} {k ia i iy : Nat} {A0 : Around} {P : List Dat → MM → Prop} {C : Addr} {fs : List Dat → List (Str × V)} {ask x n y : Str} {c : Value} {p1 p2 p3 p4 np pn ap py pos pos' : Pos} {ss : List Stmt} {R : Out → Prop} {W : L2.WX}
/-- ask(), ask a name that holds such a closure -/
theorem pe_ask (hex : X.ex = []) (tk : Takes X W) (L : Lo.LamOk X.prog X.w X.K X.mg X.base (L2.CX X.prog X.w) k f F body fr (spLmX X.K T P C fs)) (hr : Room k X.A) (hA : A0.frames = some X.outer) (hC : CloSt A0 X.s_0.heap X.H_0 F fr ws) (hN : X.N[ia]? = some ask) (hv : Vis X.env.scope ask)
    (hd : (ask == ("__debug__" : Str)) = false := by decide) (hcd : (ask == ("__classdict__" : Str)) = false := by decide) :
    PE X (.Call (.Name ask p1) [] [] p2) (fun σ H _ => σ[ia]? = some (some (.ref f)) ∧ H f = some (Lo.LamO f F body) ∧ H F.c = some (CodeO F.c F.qual) ∧ spLmX X.K T P C fs (ws.map some) [] H (fun _ _ => True) fun cls d H' => W cls d σ H') := by
  refine ⟨fun pins s σ H Q I ⟨hs, h1, h2, hq⟩ => ?_⟩
  refine wpAny_Call_Name_kw (thn ((pe_var (pos := p1) hN hv hd hcd).run pins s σ H (fun v H1 => v = .ref f ∧ H1 = H) I ⟨.ref f, hs, rfl, rfl⟩) fun u s1 ⟨v, H1, I1, r1, q1⟩ => ?_)
  obtain ⟨ev, eH⟩ := q1
  subst ev
  rw [eH] at I1
  obtain rfl : u = Value.ref f := r1
  obtain ⟨od, sl, pm, ctv, ho⟩ := Lo.lamO_at I1.hok h1
  refine PySem.W.callWith_F0 (first := []) ⟨_, od, _, sl, ho⟩ ?_
  refine wpAny_call (codeAny_mono (L.run X.A X.stack s1 H [] [] (ws.map some) (fun _ _ => False) (fun cls d H' => W cls d σ H') hr I1.env0 h1 h2 (hC.later hA hex I1).1 .nil (by
    obtain ⟨D, M, ws', wd', e1, e2, sa, rw', hP, kk⟩ := hq
    exact ⟨D, M, ws', wd', e1, e2, sa, rw', hP, kk⟩)) fun rr s' hq => ?_)
  cases rr with
  | error e => exact tk _ _ (XE.of_call I1 (fun _ _ _ h => h) hq)
  | ok fl =>
    cases fl with
    | ret u =>
      obtain ⟨_, _, _, _, _, _, _, z⟩ := hq
      exact z.elim
    | next => exact False.elim hq
    | brk => exact False.elim hq
    | cont => exact False.elim hq
theorem Sl.setN {K : PySem.W.Frag} {D : Hp} {σ : L2.St} (h : Sl K D σ Γ) (i : Nat) : Sl K D (σ.set i none) (Γ.set i none) := by
  refine ⟨by rw [List.length_set, List.length_set]; exact h.1, fun j d q => ?_⟩
  by_cases e : i = j
  · subst e
    by_cases l : i < Γ.length
    · rw [List.getElem?_set_self l] at q; cases q
    · rw [List.getElem?_eq_none (by rw [List.length_set]; omega)] at q; cases q
  · rw [List.getElem?_set_ne e] at q ⊢
    exact h.2 j d q
/-- try: return ask() except x as n: y = n -/
theorem hs_tryAs (hex : X.ex = []) (hs : X.stack = X.env :: X.outer) (hf : X.env.frame = some X.env.locals) (hNd : X.N.Nodup) (hi : X.N[i]? = some n) (hln : X.env.kindOf n = some .local) (hc : Names X x c) (hexm : PySem.W.exmOne X.K (.ref C) c = some true) (hx0 : X.xe = fun _ _ => False)
    (L : Lo.LamOk X.prog X.w X.K X.mg X.base (L2.CX X.prog X.w) k f F body fr (spLmX X.K T P C fs)) (hr : Room k X.A) (hA : A0.frames = some X.outer) (hC : CloSt A0 X.s_0.heap X.H_0 F fr ws) (hNa : X.N[ia]? = some ask) (hva : Vis X.env.scope ask) (hg : Γ[ia]? = some (some (.clo f F body ws wd))) (hP : P wd M)
    (hli : i < Γ.length) (hNy : X.N[iy]? = some y) (hly : X.env.scope.names.lookup y = some .local)
    (h : ∀ a dd, HS X T ((Γ.set iy (some (caught a dd C (fs wd)))).set i none) M ss R)
    (hst : starEach [.Call (.Name ask p1) [] [] p2] X.env = (false, eval (.Call (.Name ask p1) [] [] p2) X.env) :: starEach [] X.env := by rfl)
    (hd : (ask == ("__debug__" : Str)) = false := by decide) (hcd : (ask == ("__classdict__" : Str)) = false := by decide) (hnd : (n == ("__debug__" : Str)) = false := by decide) (hncd : (n == ("__classdict__" : Str)) = false := by decide)
    (hsw : swapsWith (.Name n pn) (some (.Name y py)) ap.line X.env = pure false := by rfl) :
    HS X T Γ M (.Try [.Return (some (.List [.Call (.Name ask p1) [] [] p2] p4)) p3] [.ExceptHandler (some (.Name x np)) (some n) [.Assign [.Name y py] (.Name n pn) ap] pos'] [] [] pos :: ss) R := by
  refine pss_w (pss_cons (Lo.ps_try_as2 (i := i) (tb := fun W => tRet fun σ H _ => σ[ia]? = some (some (.ref f)) ∧ H f = some (Lo.LamO f F body) ∧ H F.c = some (CodeO F.c F.qual) ∧ spLmX X.K T P C fs (ws.map some) [] H (fun _ _ => True) fun cls d H' => W cls d σ H')
    (ts := fun _ _ _ => tSeq (tAsg (tVar i) (gName iy)) tNext) (Wout := fun _ _ _ _ => False) hex hs hf hNd hi hln hc L2.takes0
    (fun W pn xe tk _ => pss_one (ps_ret (pe_w (pe_lst (pa_cons (pe_ask (X := X.tr pn xe) hex tk L hr hA hC hNa hva hd hcd) pa_nil hst)) fun σ H Q z => z))) (fun a oe cls d pn _ _ => pss_cons (ps_set (X := X.suite a ((a, oe) :: pn)) hNd hNy (.inl hly) (pe_var hi (.inl hln) hnd hncd) hsw (.inr hly)) pss_nil)) (pss_any (ss := ss))) fun E σ H ⟨D, sa, l, k1, k2⟩ => ?_
  obtain ⟨v0, hs0, r0⟩ := l.2 ia _ hg
  cases r0 with | clo hf1 hf2 rw' =>
  refine ⟨hs0, sa.ex _ _ hf1, sa.ex _ _ hf2, D, M, ws, wd, rfl, rfl, sa, rw', hP, fun D1 H1 dx f1 hdx => ⟨true, hexm, fun _ a ha => ?_, fun z => nomatch z⟩⟩
  have hσi : (σ.set i (some (V.ref a)))[i]? = some (some (.ref a)) := by
    rw [List.getElem?_set_self (by rw [l.1]; exact hli)]
  refine ⟨.ref a, hσi, ?_⟩
  have f2 := f1.sat.new ha (Lo.exq a (.ref C) (some dx)) (fun ps z => by unfold Lo.exq at z; cases z)
  have f3 := f1.trans f2
  have hdx2 : upd D1 a (Lo.exq a (.ref C) (some dx)) dx = some (.xd (fs wd)) := f2.ex _ _ hdx
  have rc : Rep X.K (upd D1 a (Lo.exq a (.ref C) (some dx))) (.ref a) (caught a dx C (fs wd)) := .obj fun p hp => by
    simp only [List.mem_cons, List.not_mem_nil, or_false] at hp
    rcases hp with rfl | rfl
    · exact upd_same
    · exact hdx2
  have eΓ : ((Γ.set i (some (Dat.ptr a))).set iy (some (caught a dx C (fs wd)))).set i none = (Γ.set iy (some (caught a dx C (fs wd)))).set i none := by
    by_cases e : i = iy
    · subst e; simp only [List.set_set]
    · rw [List.set_comm _ _ e, List.set_set]
  have l3 := (((l.mono f3.ex).set (i := i) (v := .ref a) (d := .ptr a) .at).set (i := iy) rc).setN i
  rw [eΓ] at l3
  exact hs_rest f3 l3 (h a dx) k1 k2
/-! what is read of it -/
theorem dx_xval {e : Expr} {a dd : Addr} {gs : List (Str × V)} {v : V} (X1 : XfC X.K C) (hno : PySem.W.findIn X.K (.ref C) n = some none) (he : DX X T Γ M e (caught a dd C gs) M1) (hl : gs.lookup n = some v) (hb : attributeBase e n X.env (eval e X.env) = eval e X.env := by rfl) : DX X T Γ M (.Attribute e n pos) (.at v) M1 :=
  pe_w (Lo.pe_xf2 X1 hno he hb) fun σ H Q ⟨D, s, l, k⟩ => ⟨D, s, l, fun u D' H' f r => by
    cases r with | obj hos => exact ⟨a, dd, gs, v, rfl, f.sat.ex _ _ (hos _ List.mem_cons_self), f.sat.ex _ _ (hos _ (List.mem_cons_of_mem _ List.mem_cons_self)), hl, k _ _ _ f .at⟩⟩
theorem dx_isE {e b : Expr} {a dd : Addr} {gs : List (Str × V)} {u : Value} {cv : V} {bb : Bool} (X1 : ExcC X.K C) (hm : X.mg "isinstance" = none) (ha : DX X T Γ M e (caught a dd C gs) M1) (hb : DX X T Γ M1 b (.at cv) M2) (hc : ∀ z, RelV cv z → z = u) (hk : PySem.W.kitOne X.K (.ref C) u = some bb) (hg : Gl X "isinstance" := by rfl)
    (he : starEach [e, b] X.env = (false, eval e X.env) :: starEach [b] X.env := by rfl) (he2 : starEach [b] X.env = (false, eval b X.env) :: starEach [] X.env := by rfl) (hpl : (backTo pos (starEach [b] X.env)).any (·.1) = false := by rfl) : DX X T Γ M (.Call (.Name "isinstance" p1) [e, b] [] pos) (.bl bb) M2 :=
  dx_callB (Lo.call_isE2 X1) hm PyProof.Rows.Boot.isinstance (ax_cons ha (ax_cons hb ax_nil he2) he) (fun D H vs Q s r k => by
    obtain ⟨x, y, rfl, rx, ry⟩ := reps2 r
    cases rx with | obj hos =>
    cases ry with | «at» =>
    exact ⟨a, dd, gs, cv, u, bb, rfl, s.ex _ _ (hos _ List.mem_cons_self), s.ex _ _ (hos _ (List.mem_cons_of_mem _ List.mem_cons_self)), hc, hk, k _ _ _ (Fw.refl s) .at⟩) hg (by decide) (by decide) he hpl
/-- repr of None, a number, a text -/
theorem dx_reprA {e : Expr} {v : V} (hm : X.mg "repr" = none) (ha : DX X T Γ M e (.at v) M1) (ho : Lo.reprOk v) (hg : Gl X "repr" := by rfl) (he : starEach [e] X.env = (false, eval e X.env) :: starEach [] X.env := by rfl) : DX X T Γ M (.Call (.Name "repr" p1) [e] [] pos) (.str (Lo.reprV v)) M1 :=
  dx_callB Lo.call_reprA hm PyProof.Rows.Boot.repr (ax_cons ha ax_nil he) (fun D H vs Q s r k => by
    obtain ⟨x, rfl, rx⟩ := reps1 r
    cases rx with | «at» =>
    exact ⟨v, rfl, ho, k _ _ _ (Fw.refl s) .at⟩) hg (by decide) (by decide) he rfl
end
end Da
end
section
set_option autoImplicit false
/-! Branches that meet again; tests by relational calls. -/
namespace Da
open PySem PySem.Spec PyProof.Rows L2 StX LamX NdefX
section
variable {X : Cx} {T : TL} {Γ Γ1 Γ2 Γ3 : Gm} {M M1 M2 M3 : MM} {e c a b : Expr} {es : List Expr} {d : Dat} {ds : List Dat} {pos p p1 : Pos} {ss body els : List Stmt} {R : Out → Prop} {Rx : Dat → MM → Prop} {Ra : List Dat → MM → Prop} {x : Str} {f q : Addr} {k : Nat} {P : PtA} {bb : Bool} {py : List PyData}
theorem hs_ifM (J : Gm → MM → Prop) (hc : TX X T Γ M c bb M1) (h1 : bb = true → HS X T Γ M1 body (onlyR J)) (h2 : bb = false → HS X T Γ M1 els (onlyR J)) (h : ∀ Γ' M', J Γ' M' → HS X T Γ' M' ss R) : HS X T Γ M (.If c body els pos :: ss) R :=
  hs_if hc (fun z => hs_imp (h1 z) fun o ho => match o, ho with | .nx Γ' M', ho => h Γ' M' ho) fun z => hs_imp (h2 z) fun o ho => match o, ho with | .nx Γ' M', ho => h Γ' M' ho
/-- if not e: .., e true by a relational call -/
theorem hs_ifNotR (he : RX X T Γ M e Rx) (h : ∀ d M1, Rx d M1 → d = .bl true ∧ HS X T Γ M1 ss R) (hw : ∀ whole, isTrue e X.env whole = (do let v ← whole; standAt e.pos; holding [v] (truthy v)) := by intro _; rfl) : HS X T Γ M (.If (.UnaryOp .Not e p) body [] pos :: ss) R :=
  pss_w (pss_cons (ps_if (pt_not (pt_val he hw)) (pss_any (ss := body)) pss_nil) (pss_any (ss := ss))) fun E σ H ⟨D, s, l, k1, k2⟩ => ⟨D, s, l, fun v d D1 M1 H1 hr f1 r1 => by
    obtain ⟨rfl, h2⟩ := h d M1 hr
    exact ⟨true, r1.inv_at, ifF (hs_rest f1 (l.mono f1.ex) h2 k1 k2)⟩⟩
/-- f(e, ..), the arguments relational -/
theorem rx_callAR (F : FnL X.prog X.w X.K X.mg X.base T k f P) (hr : Room k X.A) (hm : X.mg x = some (.ref f)) (hk : PySem.W.keepIn X.K (.ref f) = true) (ha : ARX X T Γ M (e :: es) Ra) (hp : ∀ ds M1, Ra ds M1 → ∀ pins s σ H, Inv X pins σ H s → P X.A s.heap H ds M1 Rx) (hg : Gl X x := by rfl)
    (hd : (x == ("__debug__" : Str)) = false := by decide) (he : starEach (e :: es) X.env = (false, eval e X.env) :: starEach es X.env := by rfl) (hpl : (backTo pos (starEach es X.env)).any (·.1) = false := by rfl) : RX X T Γ M (.Call (.Name x p1) (e :: es) [] pos) Rx :=
  pe_w (Lo.pe_callA (E := E0) (sp0 := spD X.K T fun ds M R => ∀ pins s σ H, Inv X pins σ H s → P X.A s.heap H ds M R) F (fun pins s σ H vs Q I ⟨D, M, ds, R, sa, r, hp, kk⟩ => ⟨D, M, ds, R, sa, r, hp _ _ _ _ I, kk⟩) hr hg hm hk pass0 ha hd he hpl)
    fun σ H Q ⟨D, s, l, kk⟩ => ⟨D, s, l, fun vs ds D1 M1 H1 hR1 f1 r1 => spD_of f1.sat r1 (hp ds M1 hR1) fun v d M' D' H' hR g rv => kk v d D' M' H' hR (f1.trans g) rv⟩
/-- a list that is to change != [] -/
theorem tNeNilM (hu : X.A.units + 64 < cLine) (ha : DX X T Γ M a (.ptr q) M1) (hb : DX X T Γ M1 b (.lst []) M2) (hq : M2 q = some (.ml ds)) (hp : Dat.pys ds = some py) (hs : SeqAt.shaped (.list py) = true) (hbb : bb = !py.isEmpty) : TX X T Γ M (.Compare a [.NotEq] [b] pos) bb M2 :=
  tx_cmp (op_neD hu) ha hb (nomark _) fun D H x y Q s r1 r2 k => by
    cases r1
    obtain ⟨_, xs, h1, h2⟩ := s.mu _ _ hq
    refine ⟨.list py, .list [], .lst (SqL.of h1) (py_all.2 h2 py hp s.ex), r2.py rfl s.ex, hs, rfl, ?_⟩
    subst hbb
    cases py with
    | nil => exact k
    | cons z zs => rw [eqv_nil]; exact k
end
end Da
end
section
set_option autoImplicit false
/-! The law's call, its promise looking at the state: from the head's heap to the end. -/
namespace Da
open PySem PySem.Spec PyProof.Rows L2 StX LamX NdefX
/-- what is tracked at the start: the tables, empty, and the script where the written part lacks it -/
def H00 (tbs : List Addr) (a : Addr) (sc : Option HO) : Hp := fun b => if b ∈ tbs then some (.tbl #[]) else if b = a then sc else none
def D00 (a : Addr) (sc : Option HO) : Hp := fun b => if b = a then sc else none
section
variable {P : Program} {w : World} {K : PySem.W.Frag} {mg mb : Str → Option Value} {k : Nat} {fa a : Addr} {cs : List (Addr × Addr)} {s₁ : Shared} {vs : List Value} {ns : List Int} {T : TL} {PA : PtA}
theorem law_end (KX : K.In s₁.heap) (hns : s₁.heap.Ns mainGlobals mg) (hb : s₁.heap.Ns builtinsNs mb) (hbb : ∀ x : Str, x ≠ "__name__" → mb x = bootBuiltins x) (hlim : s₁.heap.NoLimit) (hg : s₁.gens = #[])
    (hT : ∀ p ∈ cs, s₁.heap.get? p.2 = some { cls := .none, data := .fields #[] }) (nT : ∀ p ∈ cs, K.lookup p.2 = none) (C : ∀ p ∈ cs, PySem.W.CodeHd s₁.heap p.1 p.2) (hTT : ∀ t ∈ T, t.1 ∈ cs.map (·.2))
    (hbm : ∃ (bm : Addr) (ob : Obj), mg "__builtins__" = some (.ref bm) ∧ bm ≠ builtinsNs ∧ s₁.heap.get? bm = some ob ∧ ob.cls = .type "module" ∧ ob.dict = some builtinsNs ∧ ob.data = .plain)
    (ha : s₁.heap.get? a = some { cls := .type "list", data := .seq vs.toArray }) (hi : IntsAre vs ns) (hl : ns.length ≤ sizeLine) (hr : Room k callerA)
    (F : ∀ base : Heap, K.In base → base.Ns mainGlobals mg → (∀ p ∈ cs, TabB base mg p.1 p.2) → FnL P w K mg base T k fa PA)
    (hP : ∀ (H : Hp) (os : List (Addr × HO)), (∀ D H' : Hp, (∀ p ∈ os, D p.1 = some p.2) → Ex D H' → SqL K H' a (ns.map V.int)) → PA callerA s₁.heap H [.obj a os] (fun _ => none) fun d _ => d = .bl true) :
    codeAny (model P w) callerA (.call (.ref fa) ⟨[.ref a], []⟩) (fun r s' => r = .ok (.ret (.bool true)) ∧ OldK s₁.heap s'.heap ∧ s'.os = s₁.os ∧ AllBare s'.gens) s₁ := by
  have rv := vals_ints hi
  have tabAt : ∀ {b : Addr}, b ∈ cs.map (·.2) → s₁.heap.get? b = some { cls := .none, data := .fields #[] } ∧ K.lookup b = none := fun {b} hm => by
    obtain ⟨p, hp, rfl⟩ := List.mem_map.mp hm
    exact ⟨hT p hp, nT p hp⟩
  have inT : ∀ p ∈ cs, p.2 ∈ cs.map (·.2) := fun p hp => List.mem_map.mpr ⟨p, hp, rfl⟩
  have aT : a ∉ cs.map (·.2) := fun z => by
    have q := ha.symm.trans (tabAt z).1
    cases congrArg (Option.map Obj.data) q
  -- whatever the script is tracked as
  have main : ∀ (sc : Option HO) (os : List (Addr × HO)), (∀ u, sc = some u → K.lookup a = none ∧ ObjOk P w (H00 (cs.map (·.2)) a sc) s₁.heap a u ∧ u = .frz { cls := .type "list", data := .seq vs.toArray } (.lst (ns.map V.int))) → (∀ p ∈ os, D00 a sc p.1 = some p.2) →
      (∀ D H' : Hp, (∀ p ∈ os, D p.1 = some p.2) → Ex D H' → SqL K H' a (ns.map V.int)) →
      codeAny (model P w) callerA (.call (.ref fa) ⟨[.ref a], []⟩) (fun r s' => r = .ok (.ret (.bool true)) ∧ OldK s₁.heap s'.heap ∧ s'.os = s₁.os ∧ AllBare s'.gens) s₁ := by
    intro sc os hsc hos hSq
    have atT : ∀ {b : Addr}, b ∈ cs.map (·.2) → H00 (cs.map (·.2)) a sc b = some (.tbl #[]) := fun hm => if_pos hm
    have atN : ∀ {b : Addr}, b ∉ cs.map (·.2) → b ≠ a → H00 (cs.map (·.2)) a sc b = none := fun h1 h2 => (if_neg h1).trans (if_neg h2)
    have atA : H00 (cs.map (·.2)) a sc a = sc := (if_neg aT).trans (if_pos rfl)
    have hok : HOk P w (H00 (cs.map (·.2)) a sc) s₁.heap := fun b u e => by
      by_cases h1 : b ∈ cs.map (·.2)
      · rw [atT h1] at e; cases e; exact (tabAt h1).1
      · by_cases h2 : b = a
        · subst h2; rw [atA] at e; exact (hsc u e).2.1
        · rw [atN h1 h2] at e; cases e
    -- what is not tracked stands in the base
    have free : ∀ {b : Addr} {o : Obj}, s₁.heap.get? b = some o → (∀ us n, o.data ≠ .seq us n) → o.data ≠ .fields #[] → H00 (cs.map (·.2)) a sc b = none := fun {b o} e h1 h2 => atN (fun z => by rw [(tabAt z).1] at e; cases e; exact h2 rfl) fun z => by rw [z, ha] at e; cases e; exact h1 _ _ rfl
    have toB : ∀ {b : Addr} {o : Obj}, s₁.heap.get? b = some o → (∀ us n, o.data ≠ .seq us n) → o.data ≠ .fields #[] → (hidT s₁.heap (H00 (cs.map (·.2)) a sc)).get? b = some o := fun e h1 h2 => hidT_get e (free e h1 h2)
    have nsB : ∀ {b : Addr} {m : Str → Option Value}, s₁.heap.Ns b m → (hidT s₁.heap (H00 (cs.map (·.2)) a sc)).Ns b m := fun ⟨o, es, n, e, dd, r⟩ => ⟨o, es, n, toB e (fun _ _ z => by rw [dd] at z; cases z) (fun z => by rw [dd] at z; cases z), dd, r⟩
    have KB : K.In (hidT s₁.heap (H00 (cs.map (·.2)) a sc)) := fun b o e => hidT_get (KX b o e) (by
      by_cases h1 : b ∈ cs.map (·.2)
      · rw [(tabAt h1).2] at e; cases e
      · by_cases h2 : b = a
        · subst h2
          rw [atA]
          cases q : sc with
          | none => rfl
          | some u => rw [(hsc u q).1] at e; cases e
        · exact atN h1 h2)
    have TB : ∀ p ∈ cs, TabB (hidT s₁.heap (H00 (cs.map (·.2)) a sc)) mg p.1 p.2 := fun p hp => by
      obtain ⟨o, us, fl, t1, x1, t2, x2, x3, t3, e1, c1, c2, c3, c4, c5, c6, c7, c8, c9⟩ := C p hp
      obtain ⟨bm, ob, b1, b2, b3, b4, b5, b6⟩ := hbm
      obtain ⟨og, es, n, eg, dg, _⟩ := id hns
      have u0 : o.data ≠ .fields #[] := fun z => by rw [c2] at z; cases z; simp at c3
      refine ⟨⟨o, us, fl, t1, x1, t2, x2, x3, t3, toB e1 (fun _ _ z => by rw [c2] at z; cases z) u0, c1, c2, c3, c4, c5, c6, c7, c8, c9⟩, ⟨bm, ob, b1, b2, fun z => ?_, fun z => ?_, toB b3 (fun _ _ z => by rw [b6] at z; cases z) (fun z => by rw [b6] at z; cases z), b4, b5, b6⟩, fun z => ?_⟩
      · rw [z, eg] at b3; cases b3; rw [dg] at b6; cases b6
      · rw [z, hT p hp] at b3; cases b3; cases b6
      · rw [z, hT p hp] at eg; cases eg; cases dg
    have E : Env0 P w K mg (hidT s₁.heap (H00 (cs.map (·.2)) a sc)) callerA [] s₁ (H00 (cs.map (·.2)) a sc) := ⟨rfl, ⟨KB, nsB hns, ⟨mb, nsB hb, hbb⟩, let ⟨m, h1, h2⟩ := hlim; ⟨m, nsB h1, h2⟩⟩, fun b o e => of_hidT e, Nat.le_of_eq (hidT_size _ _), trivial, (fun b z => nomatch z), hok, .of_eq hg⟩
    have sat : Sat K T (D00 a sc) (fun _ => none) (H00 (cs.map (·.2)) a sc) := by
      refine ⟨fun b u e => ?_, (fun p o z => nomatch z), fun t ht => TabS.nil (atT (hTT t ht)), fun b ps z => ?_⟩
      · by_cases h2 : b = a
        · subst h2; rw [show D00 b sc b = sc from if_pos rfl] at e; rw [atA]; exact e
        · rw [show D00 a sc b = none from if_neg h2] at e; cases e
      · by_cases h2 : b = a
        · subst h2
          rw [show D00 b sc b = sc from if_pos rfl] at z
          cases (hsc _ z).2.2
        · rw [show D00 a sc b = none from if_neg h2] at z; cases z
    refine codeAny_mono (F _ KB (nsB hns) TB callerA [] s₁ _ [.ref a] [.ref a] (fun v _ => v = .bl true) (fun _ _ _ => False) hr E (.cons rfl .nil) ⟨D00 a sc, fun _ => none, _, _, sat, .cons (.obj hos) .nil, hP _ os hSq, fun v d M' D' H' hR f rv => ?_⟩) fun r s' h => ?_
    · subst hR; exact rv.inv_at
    cases r with
    | error e => exact h.elim
    | ok fl =>
      cases fl with
      | next => exact h.elim
      | brk => exact h.elim
      | cont => exact h.elim
      | ret u =>
        obtain ⟨v, H', os', bare, un, hok', ru, hv⟩ := h
        subst hv
        obtain rfl : u = Value.bool true := ru
        have old : ∀ b o, b ∉ cs.map (·.2) → s₁.heap.get? b = some o → s'.heap.get? b = some o := fun b o h1 e => by
          by_cases h2 : b = a
          · subst h2
            cases q : sc with
            | none => exact un.keep b o e (by rw [atA]; exact q) (fun z => nomatch z) fun z => nomatch z
            | some u =>
              obtain ⟨_, o1, rfl⟩ := hsc u q
              obtain ⟨e2, _⟩ := hok' b _ (un.frzs b _ _ (atA.trans q))
              rw [ha] at e; cases e; exact e2
          · exact un.keep b o e (atN h1 h2) (fun z => nomatch z) fun z => nomatch z
        have tab : ∀ b, b ∈ cs.map (·.2) → ∃ more : Array Value, s'.heap.get? b = some { cls := .none, data := .fields more } := fun b h1 => by
          obtain ⟨more, z⟩ := un.tbls b #[] (atT h1)
          exact ⟨_, hok' b _ z⟩
        refine ⟨rfl, ⟨fun b o e => ?_, fun b o e => ?_⟩, os', bare⟩
        · by_cases h1 : b ∈ cs.map (·.2)
          · obtain ⟨more, hm⟩ := tab b h1
            obtain ⟨p, hp, rfl⟩ := List.mem_map.mp h1
            rw [hT p hp] at e; cases e
            exact .inr (.inl ⟨((C p hp).tab (hT p hp)).isCodeTable, rfl, #[], more, rfl, by rw [Array.empty_append]; exact hm⟩)
          · exact .inl (old b o h1 e)
        · by_cases h1 : b ∈ cs.map (·.2)
          · obtain ⟨more, hm⟩ := tab b h1
            exact ⟨_, hm⟩
          · exact ⟨o, old b o h1 e⟩
  cases hk : K.lookup a with
  | some o =>
    have e := ha.symm.trans (KX a o hk)
    cases e
    exact main none [] (fun u z => nomatch z) (fun p z => nomatch z) fun D H' _ _ => .inr ⟨_, vs.toArray, _, hk, rfl, rfl, rfl, by rw [List.size_toArray, hi.length]; exact hl, by simpa using rv⟩
  | none =>
    refine main (some (.frz { cls := .type "list", data := .seq vs.toArray } (.lst (ns.map V.int)))) [(a, .frz { cls := .type "list", data := .seq vs.toArray } (.lst (ns.map V.int)))] (fun u z => ?_) (fun p hp => ?_) fun D H' h1 ex => .inl (.inr ⟨_, ex _ _ (h1 _ List.mem_cons_self)⟩)
    · cases z
      exact ⟨hk, ⟨ha, by rw [List.length_map]; exact hl, vs, _, rv, ha⟩, rfl⟩
    · rw [List.mem_singleton.mp hp]; exact if_pos rfl
end
end Da
end
section
/-! What must stand in the written part. -/
namespace Tx
open PySem PySem.Spec PyProof.Rows L2
structure Wd (K : PySem.W.Frag) (mg : Str → Option Value) : Prop where
  g_is_integer : mg "is_integer" = some (.ref (He.ga K "is_integer"))
  g_is_between : mg "is_between" = some (.ref (He.ga K "is_between"))
  g_fits_modulus : mg "fits_modulus" = some (.ref (He.ga K "fits_modulus"))
  g_is_row : mg "is_row" = some (.ref (He.ga K "is_row"))
  g_first_odd : mg "first_odd" = some (.ref (He.ga K "first_odd"))
  g_beat_of : mg "beat_of" = some (.ref (He.ga K "beat_of"))
  g_shortest_of : mg "shortest_of" = some (.ref (He.ga K "shortest_of"))
  g_cycle_of : mg "cycle_of" = some (.ref (He.ga K "cycle_of"))
  g_binomial : mg "binomial" = some (.ref (He.ga K "binomial"))
  g_lead_of : mg "lead_of" = some (.ref (He.ga K "lead_of"))
  g_need_beat : mg "need_beat" = some (.ref (He.ga K "need_beat"))
  g_weighed : mg "weighed" = some (.ref (He.ga K "weighed"))
  g_coefs_of : mg "coefs_of" = some (.ref (He.ga K "coefs_of"))
  g_put_together : mg "put_together" = some (.ref (He.ga K "put_together"))
  g_put_together_ahead : mg "put_together_ahead" = some (.ref (He.ga K "put_together_ahead"))
  g_bench_of : mg "bench_of" = some (.ref (He.ga K "bench_of"))
  g__law_pen : mg "_law_pen" = some (.ref (He.ga K "_law_pen"))
  g__law_draw : mg "_law_draw" = some (.ref (He.ga K "_law_draw"))
  g__law_pick : mg "_law_pick" = some (.ref (He.ga K "_law_pick"))
  g__law_heard : mg "_law_heard" = some (.ref (He.ga K "_law_heard"))
  g__law_number : mg "_law_number" = some (.ref (He.ga K "_law_number"))
  g__law_plain : mg "_law_plain" = some (.ref (He.ga K "_law_plain"))
  g__law_run : mg "_law_run" = some (.ref (He.ga K "_law_run"))
  g__law_beat : mg "_law_beat" = some (.ref (He.ga K "_law_beat"))
  g__law_undone : mg "_law_undone" = some (.ref (He.ga K "_law_undone"))
  g__law_walk : mg "_law_walk" = some (.ref (He.ga K "_law_walk"))
  g__law_chosen : mg "_law_chosen" = some (.ref (He.ga K "_law_chosen"))
  g__law_begun : mg "_law_begun" = some (.ref (He.ga K "_law_begun"))
  g__law_gone : mg "_law_gone" = some (.ref (He.ga K "_law_gone"))
  g__law_steps : mg "_law_steps" = some (.ref (He.ga K "_law_steps"))
  g__law_is : mg "_law_is" = some (.ref (He.ga K "_law_is"))
  g__law_put : mg "_law_put" = some (.ref (He.ga K "_law_put"))
  g__law_deed : mg "_law_deed" = some (.ref (He.ga K "_law_deed"))
  g__law_tried_so : mg "_law_tried_so" = some (.ref (He.ga K "_law_tried_so"))
  g__law_right : mg "_law_right" = some (.ref (He.ga K "_law_right"))
  g_law : mg "law" = some (.ref (He.ga K "law"))
  g_Prompt : mg "Prompt" = some (.ref (He.ga K "Prompt"))
  g_Late : mg "Late" = some (.ref (He.ga K "Late"))
  g_Cycle : mg "Cycle" = some (.ref (He.ga K "Cycle"))
  g_Run : mg "Run" = some (.ref (He.ga K "Run"))
  g_Standing : mg "Standing" = some (.ref (He.ga K "Standing"))
  g_Bench : mg "Bench" = some (.ref (He.ga K "Bench"))
  g_BadNumber : mg "BadNumber" = some (.ref (He.ga K "BadNumber"))
  g_RestError : mg "RestError" = some (.ref (He.ga K "RestError"))
  k_is_integer : PySem.W.keepIn K (.ref (He.ga K "is_integer")) = true
  k_is_between : PySem.W.keepIn K (.ref (He.ga K "is_between")) = true
  k_fits_modulus : PySem.W.keepIn K (.ref (He.ga K "fits_modulus")) = true
  k_is_row : PySem.W.keepIn K (.ref (He.ga K "is_row")) = true
  k_first_odd : PySem.W.keepIn K (.ref (He.ga K "first_odd")) = true
  k_beat_of : PySem.W.keepIn K (.ref (He.ga K "beat_of")) = true
  k_shortest_of : PySem.W.keepIn K (.ref (He.ga K "shortest_of")) = true
  k_cycle_of : PySem.W.keepIn K (.ref (He.ga K "cycle_of")) = true
  k_binomial : PySem.W.keepIn K (.ref (He.ga K "binomial")) = true
  k_lead_of : PySem.W.keepIn K (.ref (He.ga K "lead_of")) = true
  k_need_beat : PySem.W.keepIn K (.ref (He.ga K "need_beat")) = true
  k_weighed : PySem.W.keepIn K (.ref (He.ga K "weighed")) = true
  k_coefs_of : PySem.W.keepIn K (.ref (He.ga K "coefs_of")) = true
  k_put_together : PySem.W.keepIn K (.ref (He.ga K "put_together")) = true
  k_put_together_ahead : PySem.W.keepIn K (.ref (He.ga K "put_together_ahead")) = true
  k_bench_of : PySem.W.keepIn K (.ref (He.ga K "bench_of")) = true
  k__law_pen : PySem.W.keepIn K (.ref (He.ga K "_law_pen")) = true
  k__law_draw : PySem.W.keepIn K (.ref (He.ga K "_law_draw")) = true
  k__law_pick : PySem.W.keepIn K (.ref (He.ga K "_law_pick")) = true
  k__law_heard : PySem.W.keepIn K (.ref (He.ga K "_law_heard")) = true
  k__law_number : PySem.W.keepIn K (.ref (He.ga K "_law_number")) = true
  k__law_plain : PySem.W.keepIn K (.ref (He.ga K "_law_plain")) = true
  k__law_run : PySem.W.keepIn K (.ref (He.ga K "_law_run")) = true
  k__law_beat : PySem.W.keepIn K (.ref (He.ga K "_law_beat")) = true
  k__law_undone : PySem.W.keepIn K (.ref (He.ga K "_law_undone")) = true
  k__law_walk : PySem.W.keepIn K (.ref (He.ga K "_law_walk")) = true
  k__law_chosen : PySem.W.keepIn K (.ref (He.ga K "_law_chosen")) = true
  k__law_begun : PySem.W.keepIn K (.ref (He.ga K "_law_begun")) = true
  k__law_gone : PySem.W.keepIn K (.ref (He.ga K "_law_gone")) = true
  k__law_steps : PySem.W.keepIn K (.ref (He.ga K "_law_steps")) = true
  k__law_is : PySem.W.keepIn K (.ref (He.ga K "_law_is")) = true
  k__law_put : PySem.W.keepIn K (.ref (He.ga K "_law_put")) = true
  k__law_deed : PySem.W.keepIn K (.ref (He.ga K "_law_deed")) = true
  k__law_tried_so : PySem.W.keepIn K (.ref (He.ga K "_law_tried_so")) = true
  k__law_right : PySem.W.keepIn K (.ref (He.ga K "_law_right")) = true
  k_law : PySem.W.keepIn K (.ref (He.ga K "law")) = true
  n_isinstance : mg "isinstance" = none
  n_int : mg "int" = none
  n_bool : mg "bool" = none
  n_list : mg "list" = none
  n_tuple : mg "tuple" = none
  n_len : mg "len" = none
  n_range : mg "range" = none
  n_all : mg "all" = none
  n_sum : mg "sum" = none
  n_enumerate : mg "enumerate" = none
  n_abs : mg "abs" = none
  n_min : mg "min" = none
  n_repr : mg "repr" = none
  n_ValueError : mg "ValueError" = none
  i_MOST_MODULUS : ∃ t, mg "MOST_MODULUS" = some (.int 1000000000000000000000000000000 t)
  i_MOST_NUMBER : ∃ t, mg "MOST_NUMBER" = some (.int 1000000000000000000000000000000 t)
  i_MOST_NUMBERS : ∃ t, mg "MOST_NUMBERS" = some (.int 60 t)
  i_MOST_STAGES : ∃ t, mg "MOST_STAGES" = some (.int 6 t)
  i_MOST_STEPS : ∃ t, mg "MOST_STEPS" = some (.int 2000 t)
  i_MOST_LEAP : ∃ t, mg "MOST_LEAP" = some (.int 1000000000000000000000000000000 t)
  c_Prompt : Da.IsC K (He.ga K "Prompt")
  mk_Prompt : Mk K (He.ga K "Prompt") (He.ma K (He.ga K "Prompt") "__init__")
  c_Late : Da.IsC K (He.ga K "Late")
  mk_Late : Mk K (He.ga K "Late") (He.ma K (He.ga K "Late") "__init__")
  c_Cycle : Da.IsC K (He.ga K "Cycle")
  mk_Cycle : Mk K (He.ga K "Cycle") (He.ma K (He.ga K "Cycle") "__init__")
  c_Run : Da.IsC K (He.ga K "Run")
  mk_Run : Mk K (He.ga K "Run") (He.ma K (He.ga K "Run") "__init__")
  c_Standing : Da.IsC K (He.ga K "Standing")
  mk_Standing : Mk K (He.ga K "Standing") (He.ma K (He.ga K "Standing") "__init__")
  c_Bench : Da.IsC K (He.ga K "Bench")
  mk_Bench : Mk K (He.ga K "Bench") (He.ma K (He.ga K "Bench") "__init__")
  a_Prompt_stages : NoAttr K (He.ga K "Prompt") "stages"
  a_Prompt_modulus : NoAttr K (He.ga K "Prompt") "modulus"
  a_Late_stages : NoAttr K (He.ga K "Late") "stages"
  a_Late_modulus : NoAttr K (He.ga K "Late") "modulus"
  a_Cycle_numbers : NoAttr K (He.ga K "Cycle") "numbers"
  a_Run_chain : NoAttr K (He.ga K "Run") "chain"
  a_Run_lead : NoAttr K (He.ga K "Run") "lead"
  a_Run_starts : NoAttr K (He.ga K "Run") "starts"
  a_Run_tables : NoAttr K (He.ga K "Run") "tables"
  a_Standing_own_rests : NoAttr K (He.ga K "Standing") "own_rests"
  a_Standing_own_carried : NoAttr K (He.ga K "Standing") "own_carried"
  a_Standing_cycle : NoAttr K (He.ga K "Standing") "cycle"
  a_Standing_gone : NoAttr K (He.ga K "Standing") "gone"
  a_Standing_sum_given : NoAttr K (He.ga K "Standing") "sum_given"
  a_Standing_words : NoAttr K (He.ga K "Standing") "words"
  a_Standing_ahead : NoAttr K (He.ga K "Standing") "ahead"
  a_Bench_chain : NoAttr K (He.ga K "Bench") "chain"
  a_Bench_standing : NoAttr K (He.ga K "Bench") "standing"
  m_Prompt_need_fit : Meth K (He.ga K "Prompt") "need_fit" (He.ma K (He.ga K "Prompt") "need_fit")
  m_Prompt_handed : Meth K (He.ga K "Prompt") "handed" (He.ma K (He.ga K "Prompt") "handed")
  m_Prompt_step : Meth K (He.ga K "Prompt") "step" (He.ma K (He.ga K "Prompt") "step")
  m_Late_handed : Meth K (He.ga K "Late") "handed" (He.ma K (He.ga K "Late") "handed")
  m_Run_reckoned : Meth K (He.ga K "Run") "reckoned" (He.ma K (He.ga K "Run") "reckoned")
  m_Run_table_of : Meth K (He.ga K "Run") "table_of" (He.ma K (He.ga K "Run") "table_of")
  m_Run_rest_of : Meth K (He.ga K "Run") "rest_of" (He.ma K (He.ga K "Run") "rest_of")
  m_Run_carries_at : Meth K (He.ga K "Run") "carries_at" (He.ma K (He.ga K "Run") "carries_at")
  m_Run_rests_at : Meth K (He.ga K "Run") "rests_at" (He.ma K (He.ga K "Run") "rests_at")
  m_Run_inputs_to : Meth K (He.ga K "Run") "inputs_to" (He.ma K (He.ga K "Run") "inputs_to")
  m_Run_prompted : Meth K (He.ga K "Run") "prompted" (He.ma K (He.ga K "Run") "prompted")
  m_Standing_changed : Meth K (He.ga K "Standing") "changed" (He.ma K (He.ga K "Standing") "changed")
  m_Standing_counted : Meth K (He.ga K "Standing") "counted" (He.ma K (He.ga K "Standing") "counted")
  m_Standing_behind : Meth K (He.ga K "Standing") "behind" (He.ma K (He.ga K "Standing") "behind")
  m_Bench_set_lead : Meth K (He.ga K "Bench") "set_lead" (He.ma K (He.ga K "Bench") "set_lead")
  m_Bench_run : Meth K (He.ga K "Bench") "run" (He.ma K (He.ga K "Bench") "run")
  m_Bench_go : Meth K (He.ga K "Bench") "go" (He.ma K (He.ga K "Bench") "go")
  m_Bench_step : Meth K (He.ga K "Bench") "step" (He.ma K (He.ga K "Bench") "step")
  m_Bench_leap : Meth K (He.ga K "Bench") "leap" (He.ma K (He.ga K "Bench") "leap")
  m_Bench_led : Meth K (He.ga K "Bench") "led" (He.ma K (He.ga K "Bench") "led")
  m_Bench_told_by : Meth K (He.ga K "Bench") "told_by" (He.ma K (He.ga K "Bench") "told_by")
  m_Bench_undo : Meth K (He.ga K "Bench") "undo" (He.ma K (He.ga K "Bench") "undo")
  m_Bench_tried : Meth K (He.ga K "Bench") "tried" (He.ma K (He.ga K "Bench") "tried")
  m_Bench_twin : Meth K (He.ga K "Bench") "twin" (He.ma K (He.ga K "Bench") "twin")
  p_Cycle_amount : PropOf K (He.ga K "Cycle") "amount" (He.ma K (He.ga K "Cycle") "amount") (prG K (He.ga K "Cycle") "amount")
  p_Bench_now : PropOf K (He.ga K "Bench") "now" (He.ma K (He.ga K "Bench") "now") (prG K (He.ga K "Bench") "now")
  p_Bench_given : PropOf K (He.ga K "Bench") "given" (He.ma K (He.ga K "Bench") "given") (prG K (He.ga K "Bench") "given")
  p_Bench_rests : PropOf K (He.ga K "Bench") "rests" (He.ma K (He.ga K "Bench") "rests") (prG K (He.ga K "Bench") "rests")
  p_Bench_carried : PropOf K (He.ga K "Bench") "carried" (He.ma K (He.ga K "Bench") "carried") (prG K (He.ga K "Bench") "carried")
  p_Bench_past : PropOf K (He.ga K "Bench") "past" (He.ma K (He.ga K "Bench") "past") (prG K (He.ga K "Bench") "past")
  p_Bench_lead_now : PropOf K (He.ga K "Bench") "lead_now" (He.ma K (He.ga K "Bench") "lead_now") (prG K (He.ga K "Bench") "lead_now")
  st_of : Lo.SMet K (He.ga K "Cycle") (.type "type") "of" (He.ma K (He.ga K "Cycle") "of") (stG K (He.ga K "Cycle") "of")
  kit_Cycle_int : PySem.W.kitOne K (.ref (He.ga K "Cycle")) (.type "int") = some false
  kit_Cycle_Cycle : PySem.W.kitOne K (.ref (He.ga K "Cycle")) (.ref (He.ga K "Cycle")) = some true
  kit_Run_Run : PySem.W.kitOne K (.ref (He.ga K "Run")) (.ref (He.ga K "Run")) = some true
  kit_Prompt_Prompt : PySem.W.kitOne K (.ref (He.ga K "Prompt")) (.ref (He.ga K "Prompt")) = some true
  kit_Late_Prompt : PySem.W.kitOne K (.ref (He.ga K "Late")) (.ref (He.ga K "Prompt")) = some false
  kit_Prompt_PL : PySem.W.kitAny K (.ref (He.ga K "Prompt")) [.ref (He.ga K "Prompt"), .ref (He.ga K "Late")] = some true
  kit_Late_PL : PySem.W.kitAny K (.ref (He.ga K "Late")) [.ref (He.ga K "Prompt"), .ref (He.ga K "Late")] = some true
  f_Cycle___len__ : PySem.W.findIn K (.ref (He.ga K "Cycle")) "__len__" = some (some (.ref (He.ma K (He.ga K "Cycle") "__len__")))
  fn_Cycle___len__ : PySem.W.isFn K (.ref (He.ma K (He.ga K "Cycle") "__len__")) = true
  f_Cycle___getitem__ : PySem.W.findIn K (.ref (He.ga K "Cycle")) "__getitem__" = some (some (.ref (He.ma K (He.ga K "Cycle") "__getitem__")))
  fn_Cycle___getitem__ : PySem.W.isFn K (.ref (He.ma K (He.ga K "Cycle") "__getitem__")) = true
  f_Cycle___lshift__ : PySem.W.findIn K (.ref (He.ga K "Cycle")) "__lshift__" = some (some (.ref (He.ma K (He.ga K "Cycle") "__lshift__")))
  fn_Cycle___lshift__ : PySem.W.isFn K (.ref (He.ma K (He.ga K "Cycle") "__lshift__")) = true
  f_Cycle___eq__ : PySem.W.findIn K (.ref (He.ga K "Cycle")) "__eq__" = some (some (.ref (He.ma K (He.ga K "Cycle") "__eq__")))
  fn_Cycle___eq__ : PySem.W.isFn K (.ref (He.ma K (He.ga K "Cycle") "__eq__")) = true
  f_Bench___len__ : PySem.W.findIn K (.ref (He.ga K "Bench")) "__len__" = some (some (.ref (He.ma K (He.ga K "Bench") "__len__")))
  fn_Bench___len__ : PySem.W.isFn K (.ref (He.ma K (He.ga K "Bench") "__len__")) = true
  f_Bench___getitem__ : PySem.W.findIn K (.ref (He.ga K "Bench")) "__getitem__" = some (some (.ref (He.ma K (He.ga K "Bench") "__getitem__")))
  fn_Bench___getitem__ : PySem.W.isFn K (.ref (He.ma K (He.ga K "Bench") "__getitem__")) = true
  f_Bench___setitem__ : PySem.W.findIn K (.ref (He.ga K "Bench")) "__setitem__" = some (some (.ref (He.ma K (He.ga K "Bench") "__setitem__")))
  fn_Bench___setitem__ : PySem.W.isFn K (.ref (He.ma K (He.ga K "Bench") "__setitem__")) = true
  fi_Cycle : PySem.W.fnIn K (He.ma K (He.ga K "Cycle") "__getitem__") = true
  fi_Bench : PySem.W.fnIn K (He.ma K (He.ga K "Bench") "__getitem__") = true
  sf_Cycle : PySem.W.selfFirst K (He.ga K "Cycle") = true
  rs_Cycle : PySem.W.findIn K (.ref (He.ga K "Cycle")) "__rlshift__" = some none
  ls_int : ∃ fo, PySem.W.findIn K (.type "int") "__lshift__" = some fo
  rl_int : ∃ fo, PySem.W.findIn K (.type "int") "__rlshift__" = some fo
  sub_int : PySem.W.subIn K (.type "int") (.ref (He.ga K "Cycle")) = some false
  ne_Cycle : PySem.W.findIn K (.ref (He.ga K "Cycle")) "__ne__" = some (some (.builtin "object.__ne__"))
  ns_Bench : PySem.W.noSeq K (He.ga K "Bench") = true
end Tx
end
section
set_option autoImplicit false
namespace Tx
open PySem PySem.Spec PyProof.Rows L2 Da
section
variable {Pg : Program} {w : World} {K : PySem.W.Frag} {mg : Str → Option Value} {base : Heap} {T : TL}
abbrev pIsInt (K : PySem.W.Frag) : PtD := fun ds M R => ∃ d t b, ds = [d] ∧ TyD K d t ∧ PySem.W.kitOne K t (.type "int") = some b ∧ (b = true → PySem.W.kitOne K t (.type "bool") = some false) ∧ R (.bl b) M
theorem ok_is_integer (G : Wd K mg) (F : FnT K "is_integer" "is_integer" s_is_integer (He.ga K "is_integer")) : FnR Pg w K mg base CX0 1 (He.ga K "is_integer") (spD K T (pIsInt K)) := by
  obtain ⟨fd, F⟩ := F
  refine fd_ok F sc_is_integer (F.bindsN fun _ _ _ _ _ _ us hl => match us, hl with | [_], _ => rfl) (fun ds M R h => by obtain ⟨d, t, b, rfl, _⟩ := h; rfl) fun cdv A outer s H E ds M R hr h => ?_
  obtain ⟨d, t, b, rfl, h1, h2, h3, h4⟩ := h
  refine hs_ret (d := .bl b) (dx_and (dx_isi G.n_isinstance (v 0) (ty_int G.n_int) h1 (.ty _) h2) (fun hb => ?_) (fun hb => ⟨rfl, by rw [hb]⟩)) h4
  subst hb
  exact dx_one (notE (dx_isi G.n_isinstance (v 0) (ty_bool G.n_bool) h1 (.ty _) (h3 rfl)))
/-- an int between two; a thing that is no int -/
abbrev pBtw (K : PySem.W.Frag) : PtD := fun ds M R => ∃ d lo hi, ds = [d, .int lo, .int hi] ∧ ((∃ i, d = .int i ∧ R (.bl (decide (lo ≤ i) && decide (i ≤ hi))) M) ∨ ∃ t, TyD K d t ∧ PySem.W.kitOne K t (.type "int") = some false ∧ R (.bl false) M)
theorem kit_int_int {K : PySem.W.Frag} : PySem.W.kitOne K (.type "int") (.type "int") = some true := kit_ty (by decide +kernel)
theorem kit_int_bool {K : PySem.W.Frag} : PySem.W.kitOne K (.type "int") (.type "bool") = some false := kit_ty (by decide +kernel)
theorem ok_is_between (G : Wd K mg) (F : FnT K "is_between" "is_between" s_is_between (He.ga K "is_between"))
    (F1 : FnR Pg w K mg base CX0 1 (He.ga K "is_integer") (spD K T (pIsInt K))) : FnR Pg w K mg base CX0 2 (He.ga K "is_between") (spD K T (pBtw K)) := by
  obtain ⟨fd, F⟩ := F
  refine fd_ok F sc_is_between (F.bindsN fun _ _ _ _ _ _ us hl => match us, hl with | [_, _, _], _ => rfl) (fun ds M R h => by obtain ⟨d, t, b, rfl, _⟩ := h; rfl) fun cdv A outer s H E ds M R hr h => ?_
  obtain ⟨d, lo, hi, rfl, h⟩ := h
  rcases h with ⟨i, rfl, h⟩ | ⟨t, h1, h2, h3⟩
  · refine hs_ret (d := .bl (decide (lo ≤ i) && decide (i ≤ hi))) (dx_and (b1 := true) (dx_call F1 hr G.g_is_integer G.k_is_integer (ax_cons (v 0) ax_nil) ⟨_, _, true, rfl, tyd_int, kit_int_int, fun _ => kit_int_bool, rfl, rfl⟩) (fun _ => dx_one (leLe (v 1) (v 0) (v 2) rfl)) (fun z => nomatch z)) h
  · exact hs_ret (d := .bl false) (dx_and (b1 := false) (dx_call F1 hr G.g_is_integer G.k_is_integer (ax_cons (v 0) ax_nil) ⟨_, _, false, rfl, h1, h2, (fun z => nomatch z), rfl, rfl⟩) (fun z => nomatch z) fun _ => ⟨rfl, rfl⟩) h3
end
end Tx
end
section
set_option autoImplicit false
namespace Tx
open PySem PySem.Spec PyProof.Rows L2 Da
section
variable {Pg : Program} {w : World} {K : PySem.W.Frag} {mg : Str → Option Value} {base : Heap} {T : TL}
theorem ok_fits (G : Wd K mg) (F : FnT K "fits_modulus" "fits_modulus" s_fits_modulus (He.ga K "fits_modulus")) (F1 : FnR Pg w K mg base CX0 2 (He.ga K "is_between") (spD K T (pBtw K))) :
    FnR Pg w K mg base CX0 3 (He.ga K "fits_modulus") (spD K T fun ds M R => ∃ i, ds = [.int i] ∧ 2 ≤ i ∧ i ≤ 1000 ∧ R (.bl true) M) := by
  obtain ⟨fd, F⟩ := F
  refine fd_ok F sc_fits_modulus (F.bindsN fun _ _ _ _ _ _ us hl => match us, hl with | [_], _ => rfl) (fun ds M R h => by obtain ⟨d, rfl, _⟩ := h; rfl) fun cdv A outer s H E ds M R hr h => ?_
  obtain ⟨i, rfl, h1, h2, h3⟩ := h
  refine hs_ret (dx_call F1 hr G.g_is_between G.k_is_between (ax_cons (v 0) (ax_cons dx_int (ax_cons (gi G.i_MOST_MODULUS) ax_nil))) ⟨_, _, _, rfl, .inl ⟨i, rfl, ?_, rfl⟩⟩) h3
  rw [decide_eq_true h1, decide_eq_true (by omega)]; rfl
theorem kitAny_list {K : PySem.W.Frag} : PySem.W.kitAny K (.type "list") [.type "list", .type "tuple"] = some true := kitAny_cons (b := true) (kit_ty (by decide +kernel)) (fun z => nomatch z) fun _ => rfl
theorem kitAny_tuple {K : PySem.W.Frag} : PySem.W.kitAny K (.type "tuple") [.type "list", .type "tuple"] = some true := kitAny_cons (b := false) (kit_ty (by decide +kernel)) (fun _ => kitAny_cons (b := true) (kit_ty (by decide +kernel)) (fun z => nomatch z) fun _ => rfl) fun z => nomatch z
theorem ok_is_row (G : Wd K mg) (F : FnT K "is_row" "is_row" s_is_row (He.ga K "is_row")) : FnR Pg w K mg base CX0 1 (He.ga K "is_row") (spD K T fun ds M R => ∃ d xs, ds = [d] ∧ d.seq = some xs ∧ R (.bl true) M) := by
  obtain ⟨fd, F⟩ := F
  refine fd_ok F sc_is_row (F.bindsN fun _ _ _ _ _ _ us hl => match us, hl with | [_], _ => rfl) (fun ds M R h => by obtain ⟨d, xs, rfl, _⟩ := h; rfl) fun cdv A outer s H E ds M R hr h => ?_
  obtain ⟨d, xs, rfl, h1, h2⟩ := h
  cases d with
  | lst ys => exact hs_ret (dx_isiT (cs := [.ty "list", .ty "tuple"]) G.n_isinstance (v 0) (dx_tup (ax_cons (ty_list G.n_list) (ax_cons (ty_tuple G.n_tuple) ax_nil))) tyd_lst (.cons (.ty _) (.cons (.ty _) .nil)) kitAny_list) h2
  | tup ys => exact hs_ret (dx_isiT (cs := [.ty "list", .ty "tuple"]) G.n_isinstance (v 0) (dx_tup (ax_cons (ty_list G.n_list) (ax_cons (ty_tuple G.n_tuple) ax_nil))) tyd_tup (.cons (.ty _) (.cons (.ty _) .nil)) kitAny_tuple) h2
  | _ => cases h1
abbrev pOdd : PtD := fun ds M R => ∃ ns lo hi, ds = [.tup (intsD ns), .int lo, .int hi] ∧ (∀ x ∈ ns, lo ≤ x ∧ x ≤ hi) ∧ R .non M
theorem ok_first_odd (G : Wd K mg) (F : FnT K "first_odd" "first_odd" s_first_odd (He.ga K "first_odd")) (F1 : FnR Pg w K mg base CX0 2 (He.ga K "is_between") (spD K T (pBtw K))) : FnR Pg w K mg base CX0 3 (He.ga K "first_odd") (spD K T pOdd) := by
  obtain ⟨fd, F⟩ := F
  refine fd_ok F sc_first_odd (F.bindsN fun _ _ _ _ _ _ us hl => match us, hl with | [_, _, _], _ => rfl) (fun ds M R h => by obtain ⟨d, xs, _, rfl, _⟩ := h; rfl) fun cdv A outer s H E ds M R hr h => ?_
  obtain ⟨ns, lo, hi, rfl, h1, h2⟩ := h
  refine hs_for (ixEI G.n_enumerate (v 0)) (fun i Γ' M' => M' = M ∧ ∃ a b, Γ' = [some (.tup (intsD ns)), some (.int lo), some (.int hi), a, b]) ⟨rfl, _, _, rfl⟩ ?_ ?_ rfl PassesOwn.never
  · rintro i Γ' M' hi' ⟨rfl, a, b, rfl⟩
    refine ⟨_, _, gx_tup rfl (gxs_cons (gn 3 sc_first_odd.nd) (gxs_cons (gn 4 sc_first_odd.nd) gxs_nil)), ?_⟩
    have hx := h1 (ns.getD i 0) (by simp [List.getD_eq_getElem?_getD, hi'])
    refine hs_ifF (tnot (b := true) (tx_val (dx_call F1 hr G.g_is_between G.k_is_between (ax_cons (v 4) (ax_cons (v 1) (ax_cons (v 2) ax_nil))) ⟨_, _, _, rfl, .inl ⟨_, rfl, ?_, rfl⟩⟩))) (hs_nil ⟨rfl, _, _, rfl⟩)
    rw [decide_eq_true hx.1, decide_eq_true hx.2]; rfl
  · rintro Γ' M' ⟨rfl, a, b, rfl⟩
    exact hs_ret dx_non h2
end
end Tx
end
section
/-! What the defs compute, in plain Lean. -/
namespace Mi
/-- binomial, _law_chosen -/
def binI (n : Int) : Nat → Int
  | 0 => 1
  | k + 1 => binI n k * (n - k) / (k + 1)
/-- weighed -/
def wgh (xs : List Int) : Int := ((List.range xs.length).map fun (a : Nat) => (1 - 2 * ((a : Int) % 2)) * binI ((xs.length - 1 : Nat) : Int) a * xs.getD (xs.length - 1 - a) 0).sum
def diffs : List Int → List Int
  | x :: y :: r => (y - x) :: diffs (y :: r)
  | _ => []
theorem diffs_len : ∀ xs : List Int, (diffs xs).length = xs.length - 1
  | [] => rfl
  | [_] => rfl
  | x :: y :: r => by rw [diffs, List.length_cons, diffs_len (y :: r)]; simp
/-- coefs_of -/
def coefs (m : Int) : List Int → List Int
  | [] => []
  | x :: r => (x % m) :: coefs m (diffs (x :: r))
termination_by xs => xs.length
decreasing_by rw [diffs_len]; simp
theorem diffs_getD : ∀ (xs : List Int) (i : Nat), i + 1 < xs.length → (diffs xs).getD i 0 = xs.getD (i + 1) 0 - xs.getD i 0
  | [], i, h => by simp at h
  | [_], i, h => by simp at h
  | x :: y :: r, 0, h => by simp [diffs]
  | x :: y :: r, i + 1, h => by
    have := diffs_getD (y :: r) i (by simpa using h)
    simpa [diffs] using this
/-- one beat: the new rests, the carries; late hands on the old rest -/
def beat (late : Bool) (m : Int) : List Int → Int → List Int × List Int
  | [], _ => ([], [])
  | x :: r, g =>
    let c : Int := if m ≤ x + g then 1 else 0
    let y := x + g - c * m
    let p := beat late m r (if late then x else y)
    (y :: p.1, c :: p.2)
/-- is L a period of the row -/
def isPer (ns : List Int) (L : Nat) : Bool := ((List.range (ns.length - L)).map fun i => decide (ns.getD (L + i) 0 = ns.getD i 0)).all id
def shortFrom (ns : List Int) : Nat → Nat → List Int
  | _, 0 => ns
  | L, f + 1 => if (decide (ns.length % L = 0) && isPer ns L) = true then ns.take L else shortFrom ns (L + 1) f
/-- shortest_of -/
def shortest (ns : List Int) : List Int := shortFrom ns 1 (ns.length - 1)
/-- the row from the k-th on, around -/
def rot (k : Int) (ns : List Int) : List Int := (List.range ns.length).map fun (a : Nat) => ns.getD ((a + k) % ns.length).toNat 0
theorem rot_len (k : Int) (ns : List Int) : (rot k ns).length = ns.length := by simp [rot]
theorem getD_mem {ns : List Int} {i : Nat} (h : i < ns.length) : ns.getD i 0 ∈ ns := by
  have : ns.getD i 0 = ns[i] := by simp [List.getD_eq_getElem?_getD, h]
  rw [this]; exact List.getElem_mem h
theorem mod_lt' {ns : List Int} (h : ns ≠ []) (i : Int) : (i % ns.length).toNat < ns.length := by
  have : 0 < ns.length := List.length_pos_iff.mpr h
  have h1 := Int.emod_nonneg i (show (ns.length : Int) ≠ 0 by omega)
  have h2 := Int.emod_lt_of_pos i (show (0 : Int) < ns.length by omega)
  omega
theorem rot_mem {k : Int} {ns : List Int} {x : Int} (h : x ∈ rot k ns) : x ∈ ns := by
  unfold rot at h
  obtain ⟨a, ha, rfl⟩ := List.mem_map.mp h
  refine getD_mem (mod_lt' (fun z => ?_) _)
  subst z
  simp at ha
theorem shortFrom_sub (ns : List Int) : ∀ f L x, x ∈ shortFrom ns L f → x ∈ ns
  | 0, L, x, h => h
  | f + 1, L, x, h => by
    unfold shortFrom at h
    split at h
    · exact List.mem_of_mem_take h
    · exact shortFrom_sub ns f (L + 1) x h
theorem shortest_sub {ns : List Int} {x : Int} (h : x ∈ shortest ns) : x ∈ ns := shortFrom_sub ns _ _ x h
theorem shortFrom_len (ns : List Int) (h : ns ≠ []) : ∀ f L, 0 < L → 0 < (shortFrom ns L f).length ∧ (shortFrom ns L f).length ≤ ns.length
  | 0, L, hL => ⟨List.length_pos_iff.mpr h, Nat.le_refl _⟩
  | f + 1, L, hL => by
    unfold shortFrom
    have hn := List.length_pos_iff.mpr h
    split
    · rw [List.length_take]; omega
    · exact shortFrom_len ns h f (L + 1) (by omega)
theorem shortest_len {ns : List Int} (h : ns ≠ []) : 0 < (shortest ns).length ∧ (shortest ns).length ≤ ns.length := shortFrom_len ns h _ 1 (by omega)
theorem shortest_one (x : Int) : shortest [x] = [x] := rfl
theorem beat_len (l : Bool) (m : Int) : ∀ (xs : List Int) (g : Int), (beat l m xs g).1.length = xs.length ∧ (beat l m xs g).2.length = xs.length
  | [], g => ⟨rfl, rfl⟩
  | x :: r, g => by
    obtain ⟨a, b⟩ := beat_len l m r (if l then x else x + g - (if m ≤ x + g then 1 else 0) * m)
    simp only [beat, List.length_cons, a, b, and_self]
/-- all in 0 .. m - 1 -/
def In (m : Int) (xs : List Int) : Prop := ∀ x ∈ xs, 0 ≤ x ∧ x ≤ m - 1
theorem beat_in (l : Bool) (m : Int) : ∀ (xs : List Int) (g : Int), In m xs → 0 ≤ g → g ≤ m - 1 → In m (beat l m xs g).1 ∧ ∀ c ∈ (beat l m xs g).2, c = 0 ∨ c = 1
  | [], g, _, _, _ => ⟨fun _ h => by simp [beat] at h, fun _ h => by simp [beat] at h⟩
  | x :: r, g, h, g0, g1 => by
    have hx := h x List.mem_cons_self
    have hr : In m r := fun y hy => h y (List.mem_cons_of_mem _ hy)
    have hy : 0 ≤ x + g - (if m ≤ x + g then 1 else 0) * m ∧ x + g - (if m ≤ x + g then 1 else 0) * m ≤ m - 1 := by
      split <;> omega
    have hg : 0 ≤ (if l then x else x + g - (if m ≤ x + g then 1 else 0) * m) ∧ (if l then x else x + g - (if m ≤ x + g then 1 else 0) * m) ≤ m - 1 := by
      cases l
      · exact hy
      · exact hx
    obtain ⟨a, b⟩ := beat_in l m r _ hr hg.1 hg.2
    refine ⟨fun y hm => ?_, fun y hm => ?_⟩
    · simp only [beat, List.mem_cons] at hm
      rcases hm with rfl | hm
      · exact hy
      · exact a y hm
    · simp only [beat, List.mem_cons] at hm
      rcases hm with rfl | hm
      · split
        · exact .inr rfl
        · exact .inl rfl
      · exact b y hm
theorem coefs_in {m : Int} (hm : 0 < m) : ∀ (n : Nat) (xs : List Int), xs.length = n → In m (coefs m xs)
  | 0, xs, h => by rw [List.length_eq_zero_iff.mp h, coefs]; exact fun _ z => by simp at z
  | n + 1, [], h => by simp at h
  | n + 1, x :: r, h => by
    rw [coefs]
    intro y hy
    rcases List.mem_cons.mp hy with rfl | hy
    · exact ⟨Int.emod_nonneg _ (by omega), by have := Int.emod_lt_of_pos x hm; omega⟩
    · exact coefs_in hm n (diffs (x :: r)) (by rw [diffs_len]; simpa using h) y hy
theorem coefs_len {m : Int} : ∀ (n : Nat) (xs : List Int), xs.length = n → (coefs m xs).length = n
  | 0, xs, h => by rw [List.length_eq_zero_iff.mp h, coefs]; rfl
  | n + 1, [], h => by simp at h
  | n + 1, x :: r, h => by
    rw [coefs, List.length_cons, coefs_len n (diffs (x :: r)) (by rw [diffs_len]; simpa using h)]
/-- a run's words -/
structure Rn where
  late : Bool
  m : Int
  n : Nat
  lead : List Int
  starts : List Int
structure Rn.Ok (r : Rn) : Prop where
  m2 : 2 ≤ r.m
  m9 : r.m ≤ 1000
  n1 : 1 ≤ r.n
  n6 : r.n ≤ 6
  l0 : r.lead ≠ []
  l9 : r.lead.length ≤ 60
  li : In r.m r.lead
  s0 : r.starts.length = r.n
  si : In r.m r.starts
/-- the rests behind t beats from the starts -/
def Rn.row (r : Rn) : Nat → List Int
  | 0 => r.starts
  | t + 1 => (beat r.late r.m (r.row t) (r.lead.getD (t % r.lead.length) 0)).1
theorem Rn.row_len {r : Rn} (h : r.Ok) : ∀ t, (r.row t).length = r.n
  | 0 => h.s0
  | t + 1 => by rw [Rn.row, (beat_len _ _ _ _).1, Rn.row_len h t]
/-- the coefficients at the place a of the lead, of the stage k + 1 -/
def Rn.tab (r : Rn) (a k : Nat) : List Int := coefs r.m ((List.range (k + 2)).map fun j => (r.row (a + r.lead.length * j)).getD k 0)
def sumB (cs : List Int) (q : Int) : Int := ((List.range cs.length).map fun (j : Nat) => cs.getD j 0 * binI q j).sum
/-- rest_of -/
def Rn.rest (r : Rn) (stage : Nat) (b : Int) : Int := sumB (r.tab (b % r.lead.length).toNat (stage - 1)) (b / r.lead.length) % r.m
/-- rests_at -/
def Rn.rests (r : Rn) (b : Int) : List Int := (List.range r.n).map fun k => r.rest (k + 1) b
/-- the lead's number of the beat b + 1 -/
def Rn.num (r : Rn) (b : Int) : Int := r.lead.getD (b % r.lead.length).toNat 0
/-- carries_at -/
def Rn.carries (r : Rn) (b : Int) : List Int := (beat r.late r.m (r.rests (b - 1)) (r.num (b - 1))).2
/-- inputs_to -/
def Rn.inputs (r : Rn) (b : Int) : Int := b / r.lead.length * r.lead.sum + (r.lead.take (b % r.lead.length).toNat).sum
/-- prompted -/
def Rn.prompted (r : Rn) : Rn := if r.late then { r with late := false, starts := (List.range r.n).map fun k => r.rest (k + 1) k } else r
theorem Rn.rest_in {r : Rn} (h : r.Ok) (k : Nat) (b : Int) : 0 ≤ r.rest k b ∧ r.rest k b ≤ r.m - 1 := by
  have := h.m2
  have h1 := Int.emod_nonneg (sumB (r.tab (b % r.lead.length).toNat (k - 1)) (b / r.lead.length)) (show r.m ≠ 0 by omega)
  have h2 := Int.emod_lt_of_pos (sumB (r.tab (b % r.lead.length).toNat (k - 1)) (b / r.lead.length)) (show 0 < r.m by omega)
  unfold Rn.rest
  omega
theorem Rn.Ok.prompted {r : Rn} (h : r.Ok) : r.prompted.Ok := by
  unfold Rn.prompted
  split
  · exact ⟨h.m2, h.m9, h.n1, h.n6, h.l0, h.l9, h.li, by simp, fun x hx => by
      obtain ⟨k, hk, rfl⟩ := List.mem_map.mp hx
      exact r.rest_in h _ _⟩
  · exact h
/-- put_together, put_together_ahead -/
def ptg (rws : List (List Int)) : Int := ((List.range rws.length).map fun s => wgh ((List.range (s + 1)).map fun i => (rws.getD (s - i) []).getD s 0)).sum
def pta (cs : List (List Int)) : Int := ((List.range cs.length).map fun a => wgh ((List.range (a + 1)).map fun i => (cs.getD (a - i) []).getD (a + 1) 0)).sum
theorem sum_range_succ (f : Nat → Int) (n : Nat) : ((List.range (n + 1)).map f).sum = ((List.range n).map f).sum + f n := by
  rw [List.range_succ, List.map_append, List.sum_append]; simp
/-- rows of carries -/
def Carr (n k : Nat) (rws : List (List Int)) : Prop := rws.length = k ∧ ∀ r ∈ rws, r.length = n ∧ ∀ c ∈ r, c = 0 ∨ c = 1
theorem Carr.get {n k : Nat} {rws : List (List Int)} (h : Carr n k rws) {i j : Nat} (hi : i < k) (hj : j < n) : (rws.getD i []).length = n ∧ ((rws.getD i []).getD j 0 = 0 ∨ (rws.getD i []).getD j 0 = 1) := by
  have hm : rws.getD i [] ∈ rws := by
    have : rws.getD i [] = rws[i]'(by rw [h.1]; exact hi) := by simp [List.getD_eq_getElem?_getD, h.1, hi]
    rw [this]; exact List.getElem_mem _
  obtain ⟨a, b⟩ := h.2 _ hm
  exact ⟨a, b _ (getD_mem (by rw [a]; exact hj))⟩
/-- the law's pen -/
structure Pen where
  cells : List Int
  at_ : Nat
  left : Int
/-- the cell at hand -/
def Pen.cell (p : Pen) : Int := if p.cells = [] then 60013 * p.at_ + 4099 else p.cells.getD (p.at_ % p.cells.length) 0
def Pen.absc (p : Pen) : Int := if p.cell < 0 then -p.cell else p.cell
def Pen.great (p : Pen) : Int := 2 * (p.absc - 10 ^ 18) + (if p.cell < 0 then 1 else 0)
def Pen.mix1 (p : Pen) : Int := (p.cell % 2147483543 + 71887 * p.at_ + 977) ^ 5 % 2147483629
def Pen.mix2 (p : Pen) : Int := (p.mix1 * (2 * p.at_ + 401) + 50311 * p.at_ * p.at_ + 131) ^ 3 % 2147483549
def Pen.draw (p : Pen) (many : Int) : Int × Pen :=
  if 0 < p.left then (p.left % many, { p with left := p.left / many })
  else if p.at_ < p.cells.length ∧ 10 ^ 18 ≤ p.absc then (p.great % many, ⟨p.cells, p.at_ + 1, p.great / many⟩)
  else (p.mix2 / 32 % many, ⟨p.cells, p.at_ + 1, p.left⟩)
theorem Pen.draw_in (p : Pen) {many : Int} (h : 0 < many) : 0 ≤ (p.draw many).1 ∧ (p.draw many).1 < many ∧ (p.draw many).2.at_ ≤ p.at_ + 1 := by
  unfold Pen.draw
  split
  · exact ⟨Int.emod_nonneg _ (by omega), Int.emod_lt_of_pos _ h, Nat.le_succ _⟩
  · split
    · exact ⟨Int.emod_nonneg _ (by omega), Int.emod_lt_of_pos _ h, Nat.le_refl _⟩
    · exact ⟨Int.emod_nonneg _ (by omega), Int.emod_lt_of_pos _ h, Nat.le_refl _⟩
/-- _law_number -/
def Pen.num (p : Pen) (wide : Int) : Int × Pen :=
  let d := p.draw wide
  let e := d.2.draw 5
  ([0, 1, wide - 1, wide / 2, d.1].getD e.1.toNat 0, e.2)
theorem Pen.num_in (p : Pen) {wide : Int} (h : 2 ≤ wide) : 0 ≤ (p.num wide).1 ∧ (p.num wide).1 ≤ wide - 1 ∧ (p.num wide).2.at_ ≤ p.at_ + 2 := by
  obtain ⟨a, b, c⟩ := p.draw_in (many := wide) (by omega)
  obtain ⟨d, e, f⟩ := (p.draw wide).2.draw_in (many := 5) (by omega)
  unfold Pen.num
  have hn : ((p.draw wide).2.draw 5).1.toNat < 5 := by omega
  refine ⟨?_, ?_, by show ((p.draw wide).2.draw 5).2.at_ ≤ _; omega⟩
  · show 0 ≤ [0, 1, wide - 1, wide / 2, (p.draw wide).1].getD ((p.draw wide).2.draw 5).1.toNat 0
    generalize ((p.draw wide).2.draw 5).1.toNat = i at hn
    have h2 : 0 ≤ wide / 2 := Int.ediv_nonneg (by omega) (by decide)
    match i, hn with
    | 0, _ => exact Int.le_refl 0
    | 1, _ => show (0 : Int) ≤ 1; decide
    | 2, _ => show 0 ≤ wide - 1; omega
    | 3, _ => exact h2
    | 4, _ => exact a
  · show [0, 1, wide - 1, wide / 2, (p.draw wide).1].getD ((p.draw wide).2.draw 5).1.toNat 0 ≤ wide - 1
    generalize ((p.draw wide).2.draw 5).1.toNat = i at hn
    match i, hn with
    | 0, _ => show 0 ≤ wide - 1; omega
    | 1, _ => show 1 ≤ wide - 1; omega
    | 2, _ => exact Int.le_refl _
    | 3, _ => show wide / 2 ≤ wide - 1; omega
    | 4, _ => show (p.draw wide).1 ≤ wide - 1; omega
/-- a row of n numbers -/
def Pen.nums (p : Pen) (wide : Int) : Nat → List Int × Pen
  | 0 => ([], p)
  | n + 1 =>
    let q := p.nums wide n
    let x := q.2.num wide
    (q.1 ++ [x.1], x.2)
theorem Pen.nums_in (p : Pen) {wide : Int} (h : 2 ≤ wide) : ∀ n, In wide (p.nums wide n).1 ∧ (p.nums wide n).1.length = n ∧ (p.nums wide n).2.at_ ≤ p.at_ + 2 * n
  | 0 => ⟨fun _ z => by simp [Pen.nums] at z, rfl, Nat.le_refl _⟩
  | n + 1 => by
    obtain ⟨a, b, c⟩ := p.nums_in h n
    obtain ⟨d, e, f⟩ := (p.nums wide n).2.num_in h
    refine ⟨fun x hx => ?_, by simp [Pen.nums, b], by show ((p.nums wide n).2.num wide).2.at_ ≤ _; omega⟩
    rcases List.mem_append.mp (show x ∈ (p.nums wide n).1 ++ [((p.nums wide n).2.num wide).1] from hx) with hx | hx
    · exact a x hx
    · rw [List.mem_singleton.mp hx]; exact ⟨d, e⟩
/-- _law_undone -/
def undo (late : Bool) (m : Int) : List Int → Int → List Int
  | [], _ => []
  | x :: r, g =>
    let y := if g ≤ x then x - g else x - g + m
    y :: undo late m r (if late then y else x)
theorem undo_len (late : Bool) (m : Int) : ∀ (xs : List Int) (g : Int), (undo late m xs g).length = xs.length
  | [], _ => rfl
  | x :: r, g => by simp only [undo, List.length_cons, undo_len late m r]
/-- the row's number of the beat b + 1 -/
def num (row : List Int) (b : Int) : Int := row.getD (b % row.length).toNat 0
/-- the rests by single beats, forward and back -/
def fw (late : Bool) (m : Int) (row starts : List Int) : Nat → List Int
  | 0 => starts
  | t + 1 => (beat late m (fw late m row starts t) (num row t)).1
def bw (late : Bool) (m : Int) (row starts : List Int) : Nat → List Int
  | 0 => starts
  | j + 1 => undo late m (bw late m row starts j) (num row (-(j : Int) - 1))
theorem fw_len (late : Bool) (m : Int) (row starts : List Int) : ∀ t, (fw late m row starts t).length = starts.length
  | 0 => rfl
  | t + 1 => by rw [fw, (beat_len _ _ _ _).1, fw_len late m row starts t]
theorem bw_len (late : Bool) (m : Int) (row starts : List Int) : ∀ t, (bw late m row starts t).length = starts.length
  | 0 => rfl
  | t + 1 => by rw [bw, undo_len, bw_len late m row starts t]
/-- the carries of the beat -j -/
def bc (late : Bool) (m : Int) (row starts : List Int) (j : Nat) : List Int := (beat late m (bw late m row starts (j + 1)) (num row (-(j : Int) - 1))).2
/-- what the law holds -/
structure Hd where
  wide : Int
  row : List Int
  some_ : List Int
  kept : List (List Int)
  gone : Int
  total : Int
/-- what _law_gone gives -/
def gave (n : Nat) (recent : List (List Int)) : Int := ((List.range n).map fun (s : Nat) => ((List.range (s + 1)).map fun (b : Nat) => binI s b * (1 - 2 * ((b : Int) % 2)) * (recent.getD b []).getD s 0).sum).sum
def Hd.one (h : Hd) (g : Int) : Hd × Int :=
  let p := beat false h.wide h.some_ g
  let recent := p.2 :: h.kept
  let out := gave h.some_.length recent
  (⟨h.wide, h.row, p.1, recent.take (h.some_.length - 1), h.gone + 1, h.total + out⟩, out)
def Hd.turn (h : Hd) : Hd := { h with row := h.row.drop 1 ++ h.row.take 1 }
def Hd.steps (h : Hd) : Nat → Hd × List Int
  | 0 => (h, [])
  | t + 1 =>
    let p := h.steps t
    let q := p.1.one (p.1.row.getD 0 0)
    (q.1.turn, p.2 ++ [q.2])
structure Hd.Ok (h : Hd) : Prop where
  w2 : 2 ≤ h.wide
  w9 : h.wide ≤ 30
  r0 : h.row ≠ []
  r9 : h.row.length ≤ 60
  ri : In h.wide h.row
  s1 : 1 ≤ h.some_.length
  s6 : h.some_.length ≤ 6
  si : In h.wide h.some_
  kc : Carr h.some_.length (h.some_.length - 1) h.kept
theorem Hd.one_ok {h : Hd} (ok : h.Ok) {g : Int} (g0 : 0 ≤ g) (g1 : g ≤ h.wide - 1) : (h.one g).1.Ok ∧ Carr h.some_.length h.some_.length ((beat false h.wide h.some_ g).2 :: h.kept) := by
  obtain ⟨a, b⟩ := ok.kc
  have s1 := ok.s1
  have hc : Carr h.some_.length h.some_.length ((beat false h.wide h.some_ g).2 :: h.kept) := ⟨by rw [List.length_cons, a]; omega, fun r hr => by
    rcases List.mem_cons.mp hr with rfl | hr
    · exact ⟨(beat_len _ _ _ _).2, (beat_in false _ _ g ok.si g0 g1).2⟩
    · exact b r hr⟩
  have hl : (beat false h.wide h.some_ g).1.length = h.some_.length := (beat_len _ _ _ _).1
  refine ⟨⟨ok.w2, ok.w9, ok.r0, ok.r9, ok.ri, ?_, ?_, (beat_in false _ _ g ok.si g0 g1).1, ?_⟩, hc⟩
  · show 1 ≤ (beat false h.wide h.some_ g).1.length; rw [hl]; exact s1
  · show (beat false h.wide h.some_ g).1.length ≤ 6; rw [hl]; exact ok.s6
  · show Carr (beat false h.wide h.some_ g).1.length ((beat false h.wide h.some_ g).1.length - 1) (((beat false h.wide h.some_ g).2 :: h.kept).take (h.some_.length - 1))
    rw [hl]
    exact ⟨by rw [List.length_take, hc.1]; omega, fun r hr => hc.2 r (List.mem_of_mem_take hr)⟩
theorem Hd.turn_ok {h : Hd} (ok : h.Ok) : h.turn.Ok := by
  have h0 := ok.r0
  have r9 := ok.r9
  refine ⟨ok.w2, ok.w9, ?_, ?_, ?_, ok.s1, ok.s6, ok.si, ok.kc⟩
  · show h.row.drop 1 ++ h.row.take 1 ≠ []
    cases q : h.row with
    | nil => exact absurd q h0
    | cons x r => simp
  · show (h.row.drop 1 ++ h.row.take 1).length ≤ 60
    simp; omega
  · intro x hx
    rcases List.mem_append.mp hx with hx | hx
    · exact ok.ri x (List.mem_of_mem_drop hx)
    · exact ok.ri x (List.mem_of_mem_take hx)
theorem Hd.steps_ok {h : Hd} (ok : h.Ok) : ∀ t, (h.steps t).1.Ok ∧ (h.steps t).2.length = t
  | 0 => ⟨ok, rfl⟩
  | t + 1 => by
    obtain ⟨a, b⟩ := Hd.steps_ok ok t
    have hx := a.ri _ (getD_mem (List.length_pos_iff.mpr a.r0))
    exact ⟨Hd.turn_ok (Hd.one_ok a hx.1 hx.2).1, by rw [Hd.steps]; simp [b]⟩
end Mi
end
section
set_option autoImplicit false
namespace Tx
open PySem PySem.Spec PyProof.Rows L2 Da Mi
def chD (K : PySem.W.Frag) (late : Bool) (m : Int) (n : Nat) : Dat := .ins (chC K late) [("stages", .int n), ("modulus", .int m)]
section
variable {Pg : Program} {w : World} {K : PySem.W.Frag} {mg : Str → Option Value} {base : Heap} {T : TL}
theorem Wd.cC (G : Wd K mg) (late : Bool) : IsC K (chC K late) := by cases late; exact G.c_Prompt; exact G.c_Late
theorem Wd.aS (G : Wd K mg) (late : Bool) : NoAttr K (chC K late) "stages" := by cases late; exact G.a_Prompt_stages; exact G.a_Late_stages
theorem Wd.aM (G : Wd K mg) (late : Bool) : NoAttr K (chC K late) "modulus" := by cases late; exact G.a_Prompt_modulus; exact G.a_Late_modulus
theorem Wd.mH (G : Wd K mg) (late : Bool) : Meth K (chC K late) "handed" (He.ma K (chC K late) "handed") := by cases late; exact G.m_Prompt_handed; exact G.m_Late_handed
abbrev pHand (late : Bool) : PtD := fun ds M R => ∃ d x y, ds = [d, x, y] ∧ R (if late then x else y) M
theorem ok_handed (F : FnT K "handed" "Chain.handed" s_Chain_handed (He.ma K (He.ga K "Prompt") "handed")) (F2 : FnT K "handed" "Late.handed" s_Late_handed (He.ma K (He.ga K "Late") "handed")) (late : Bool) :
    FnR Pg w K mg base CX0 1 (He.ma K (chC K late) "handed") (spD K T (pHand late)) := by
  cases late
  · obtain ⟨fd, F⟩ := F
    refine fd_ok F sc_Chain_handed (F.bindsN fun _ _ _ _ _ _ us hl => match us, hl with | [_, _, _], _ => rfl) (fun ds M R h => by obtain ⟨_, n, j, rfl, _⟩ := h; rfl) fun cdv A outer s H E ds M R hr h => ?_
    obtain ⟨d, x, y, rfl, h⟩ := h
    exact hs_ret (v 2) h
  · obtain ⟨fd, F⟩ := F2
    refine fd_ok F sc_Late_handed (F.bindsN fun _ _ _ _ _ _ us hl => match us, hl with | [_, _, _], _ => rfl) (fun ds M R h => by obtain ⟨_, n, j, rfl, _⟩ := h; rfl) fun cdv A outer s H E ds M R hr h => ?_
    obtain ⟨d, x, y, rfl, h⟩ := h
    exact hs_ret (v 1) h
abbrev pChain (K : PySem.W.Frag) (late : Bool) : PtD := fun ds M R => ∃ q m n, ds = [.ptr q, .int (n : Nat), .int m] ∧ M q = some (.mi (chC K late) []) ∧ 1 ≤ n ∧ n ≤ 6 ∧ 2 ≤ m ∧ m ≤ 1000 ∧ R .non (M.set q (.mi (chC K late) [("stages", .int n), ("modulus", .int m)]))
theorem ok_chain (G : Wd K mg) (late : Bool) (F : FnT K "__init__" "Chain.__init__" s_Chain___init__ (He.ma K (chC K late) "__init__")) (F1 : FnR Pg w K mg base CX0 2 (He.ga K "is_between") (spD K T (pBtw K)))
    (F2 : FnR Pg w K mg base CX0 3 (He.ga K "fits_modulus") (spD K T fun ds M R => ∃ i, ds = [.int i] ∧ 2 ≤ i ∧ i ≤ 1000 ∧ R (.bl true) M)) : FnR Pg w K mg base CX0 4 (He.ma K (chC K late) "__init__") (spD K T (pChain K late)) := by
  obtain ⟨fd, F⟩ := F
  refine fd_ok F sc_Chain___init__ (F.bindsN fun _ _ _ _ _ _ us hl => match us, hl with | [_, _, _], _ => rfl) (fun ds M R h => by obtain ⟨_, n, j, rfl, _⟩ := h; rfl) fun cdv A outer s H E ds M R hr h => ?_
  obtain ⟨q, m, n, rfl, hq, h1, h2, h3, h4, h5⟩ := h
  refine hs_ifF (tnot (b := true) (tx_val (dx_call F1 (hr.mono (by decide)) G.g_is_between G.k_is_between (ax_cons (v 1) (ax_cons dx_int (ax_cons (gi G.i_MOST_STAGES) ax_nil))) ⟨_, _, _, rfl, .inl ⟨_, rfl, ?_, rfl⟩⟩))) ?_
  · rw [decide_eq_true (show (1 : Int) ≤ n by omega), decide_eq_true (show (n : Int) ≤ 6 by omega)]; rfl
  refine hs_ifF (tnot (b := true) (tx_val (dx_call F2 hr G.g_fits_modulus G.k_fits_modulus (ax_cons (v 2) ax_nil) ⟨m, rfl, h3, h4, rfl, rfl⟩))) ?_
  refine hs_fld (G.cC late).cl (G.aS late) (v 1) (v 0) hq (by decide) (hs_fld (G.cC late).cl (G.aM late) (v 2) (v 0) MM.set_same (show 1 < 900 by decide) (hs_nil ?_))
  rw [MM.set_set]
  exact h5
abbrev pBeat (K : PySem.W.Frag) : PtD := fun ds M R => ∃ late m n xs g, ds = [chD K late m n, .tup (intsD xs), .int g] ∧ xs.length ≤ 100 ∧ R (.tup [.tup (intsD (beat late m xs g).1), .tup (intsD (beat late m xs g).2)]) M
theorem ok_beat_of (G : Wd K mg) (F : FnT K "beat_of" "beat_of" s_beat_of (He.ga K "beat_of")) (F1 : ∀ late, FnR Pg w K mg base CX0 1 (He.ma K (chC K late) "handed") (spD K T (pHand late))) : FnR Pg w K mg base CX0 2 (He.ga K "beat_of") (spD K T (pBeat K)) := by
  obtain ⟨fd, F⟩ := F
  refine fd_ok F sc_beat_of (F.bindsN fun _ _ _ _ _ _ us hl => match us, hl with | [_, _, _], _ => rfl) (fun ds M R h => by obtain ⟨_, n, j, _, _, rfl, _⟩ := h; rfl) fun cdv A outer s H E ds M R hr h => ?_
  obtain ⟨late, m, n, xs, g, rfl, hz, h⟩ := h
  have nd := sc_beat_of.nd
  refine hs_par3 3 4 5 rfl nd rfl rfl rfl (by decide) (by decide) (by decide) rfl rfl rfl (ax_cons (dx_lst ax_nil) (ax_cons (dx_lst ax_nil) (ax_cons (v 2) ax_nil))) ?_
  refine hs_for (ixTI (v 1)) (fun i Γ' M' => M' = M ∧ ∃ ys cs gv a b, Γ' = [some (chD K late m n), some (.tup (intsD xs)), some (.int g), some (.lst (intsD ys)), some (.lst (intsD cs)), some (.int gv), a, b] ∧ ys.length = i ∧ cs.length = i ∧
    ys ++ (beat late m (xs.drop i) gv).1 = (beat late m xs g).1 ∧ cs ++ (beat late m (xs.drop i) gv).2 = (beat late m xs g).2) ⟨rfl, [], [], g, _, _, rfl, rfl, rfl, rfl, rfl⟩ ?_ ?_ rfl PassesOwn.never
  · rintro i Γ' M' hi ⟨rfl, ys, cs, gv, a, b, rfl, e1, e2, e3, e4⟩
    refine ⟨_, _, gn 6 nd, ?_⟩
    have ed : xs.drop i = xs.getD i 0 :: xs.drop (i + 1) := by rw [List.drop_eq_getElem_cons hi]; simp [List.getD_eq_getElem?_getD, hi]
    rw [ed] at e3 e4
    generalize xs.getD i 0 = x at e3 e4 ⊢
    refine set_ 7 nd (dx_intB G.n_int (dx_ge (dx_add (v 6) (v 5)) (dx_fld (G.cC late).cl (G.aM late) (v 0) rfl))) ?_
    refine set_ 3 nd (dx_lst (ax_star (v 3) rfl (ax_cons (dx_sub (dx_add (v 6) (v 5)) (dx_mul (v 7) (dx_fld (G.cC late).cl (G.aM late) (v 0) rfl) (.inl ?_))) ax_nil)) ?_) ?_
    · split <;> exact ⟨by decide, by decide⟩
    · simp [e1]; omega
    refine set_ 4 nd (dx_lst (ax_star (v 4) rfl (ax_cons (v 7) ax_nil)) ?_) ?_
    · simp [e2]; omega
    refine set_ 5 nd (dx_meth (F1 late) (hr.mono (by decide)) (G.cC late).cl (G.mH late) (v 0) (.inl ⟨_, rfl, rfl⟩) (ax_cons (v 6) (ax_cons (dx_ix (v 3) (dx_neg dx_int) rfl (atI_last _ _)) ax_nil)) ⟨_, _, _, rfl, rfl, rfl⟩) ?_
    refine hs_nil ⟨rfl, ys ++ [x + gv - (if m ≤ x + gv then 1 else 0) * m], cs ++ [if m ≤ x + gv then 1 else 0], if late then x else x + gv - (if m ≤ x + gv then 1 else 0) * m, some (.int x), some (.int (if m ≤ x + gv then 1 else 0)), ?_, by simp [e1], by simp [e2], ?_, ?_⟩
    · have ei : (if decide (m ≤ x + gv) = true then (1 : Int) else 0) = if m ≤ x + gv then 1 else 0 := by by_cases hq : m ≤ x + gv <;> simp [hq]
      rw [ei]
      have el : (if late = true then Dat.int x else Dat.int (x + gv - (if m ≤ x + gv then 1 else 0) * m)) = Dat.int (if late = true then x else x + gv - (if m ≤ x + gv then 1 else 0) * m) := by cases late <;> rfl
      rw [el]
      simp [intsD]
    · rw [beat] at e3; simpa using e3
    · rw [beat] at e4; simpa using e4
  · rintro Γ' M' ⟨rfl, ys, cs, gv, a, b, rfl, e1, e2, e3, e4⟩
    rw [List.drop_length, beat, List.append_nil] at e3 e4
    subst e3 e4
    exact hs_ret (tup2 (dx_tuple G.n_tuple (v 3) rfl) (dx_tuple G.n_tuple (v 4) rfl)) h
end
end Tx
end
section
set_option autoImplicit false
namespace Tx
open PySem PySem.Spec PyProof.Rows L2 Da Mi
def cyD (K : PySem.W.Frag) (ns : List Int) : Dat := .ins (He.ga K "Cycle") [("numbers", .tup (intsD ns))]
section
variable {Pg : Program} {w : World} {K : PySem.W.Frag} {mg : Str → Option Value} {base : Heap} {T : TL}
abbrev pRow : PtD := fun ds M R => ∃ d xs, ds = [d] ∧ d.seq = some xs ∧ R (.bl true) M
abbrev pNeed (K : PySem.W.Frag) : PtD := fun ds M R => ∃ m n xs g, ds = [chD K false m n, .tup (intsD xs), .int g] ∧ xs.length = n ∧ (∀ x ∈ xs, 0 ≤ x ∧ x ≤ m - 1) ∧ 0 ≤ g ∧ g ≤ m - 1 ∧ R .non M
theorem ok_need_fit (G : Wd K mg) (F : FnT K "need_fit" "Chain.need_fit" s_Chain_need_fit (He.ma K (He.ga K "Prompt") "need_fit")) (F1 : FnR Pg w K mg base CX0 2 (He.ga K "is_between") (spD K T (pBtw K))) (F2 : FnR Pg w K mg base CX0 1 (He.ga K "is_row") (spD K T pRow))
    (F3 : FnR Pg w K mg base CX0 3 (He.ga K "first_odd") (spD K T pOdd)) : FnR Pg w K mg base CX0 4 (He.ma K (He.ga K "Prompt") "need_fit") (spD K T (pNeed K)) := by
  obtain ⟨fd, F⟩ := F
  refine fd_ok F sc_Chain_need_fit (F.bindsN fun _ _ _ _ _ _ us hl => match us, hl with | [_, _, _], _ => rfl) (fun ds M R h => by obtain ⟨_, n, j, _, rfl, _⟩ := h; rfl) fun cdv A outer s H E ds M R hr h => ?_
  obtain ⟨m, n, xs, g, rfl, h1, h2, h3, h4, h5⟩ := h
  have nd := sc_Chain_need_fit.nd
  have cl := (G.cC false).cl
  refine hs_ifF (wx_or (b1 := false) (b2 := false) (tnot (b := true) (tx_val (dx_call F2 (hr.mono (by decide)) G.g_is_row G.k_is_row (ax_cons (v 1) ax_nil) ⟨_, _, rfl, rfl, rfl, rfl⟩))) (fun _ => wx_or1 (TX.cast (tx_ne (dx_len G.n_len (v 1) rfl) (dx_fld cl (G.aS false) (v 0) rfl)) ?_)) (fun z => nomatch z)).pt ?_
  · rw [ints_len, h1]; simp
  refine set_ 3 nd (dx_call F3 hr G.g_first_odd G.k_first_odd (ax_cons (v 1) (ax_cons dx_int (ax_cons (dx_sub (dx_fld cl (G.aM false) (v 0) rfl) dx_int) ax_nil))) ⟨xs, 0, m - 1, rfl, h2, rfl, rfl⟩) ?_
  refine hs_ifF (tnotN (v 3)) ?_
  refine hs_ifF (tnot (b := true) (tx_val (dx_call F1 (hr.mono (by decide)) G.g_is_between G.k_is_between (ax_cons (v 2) (ax_cons dx_int (ax_cons (dx_sub (dx_fld cl (G.aM false) (v 0) rfl) dx_int) ax_nil))) ⟨_, _, _, rfl, .inl ⟨_, rfl, ?_, rfl⟩⟩))) (hs_nil h5)
  rw [decide_eq_true h3, decide_eq_true h4]; rfl
abbrev pStep (K : PySem.W.Frag) : PtD := fun ds M R => ∃ m n xs g, ds = [chD K false m n, .tup (intsD xs), .int g] ∧ xs.length = n ∧ n ≤ 100 ∧ (∀ x ∈ xs, 0 ≤ x ∧ x ≤ m - 1) ∧ 0 ≤ g ∧ g ≤ m - 1 ∧ R (.tup [.tup (intsD (beat false m xs g).1), .tup (intsD (beat false m xs g).2)]) M
theorem ok_step (G : Wd K mg) (F : FnT K "step" "Chain.step" s_Chain_step (He.ma K (He.ga K "Prompt") "step")) (F1 : FnR Pg w K mg base CX0 4 (He.ma K (He.ga K "Prompt") "need_fit") (spD K T (pNeed K))) (F2 : FnR Pg w K mg base CX0 2 (He.ga K "beat_of") (spD K T (pBeat K))) :
    FnR Pg w K mg base CX0 5 (He.ma K (He.ga K "Prompt") "step") (spD K T (pStep K)) := by
  obtain ⟨fd, F⟩ := F
  refine fd_ok F sc_Chain_step (F.bindsN fun _ _ _ _ _ _ us hl => match us, hl with | [_, _, _], _ => rfl) (fun ds M R h => by obtain ⟨_, n, j, _, rfl, _⟩ := h; rfl) fun cdv A outer s H E ds M R hr h => ?_
  obtain ⟨m, n, xs, g, rfl, h1, h0, h2, h3, h4, h5⟩ := h
  refine hs_expr (dx_meth F1 hr (G.cC false).cl G.m_Prompt_need_fit (v 0) (.inl ⟨_, rfl, rfl⟩) (ax_cons (v 1) (ax_cons (v 2) ax_nil)) ⟨m, n, xs, g, rfl, h1, h2, h3, h4, rfl, rfl⟩) ?_
  exact hs_ret (dx_call F2 (hr.mono (by decide)) G.g_beat_of G.k_beat_of (ax_cons (v 0) (ax_cons (v 1) (ax_cons (v 2) ax_nil))) ⟨false, m, n, xs, g, rfl, by omega, rfl, rfl⟩) h5
abbrev pShort : PtD := fun ds M R => ∃ ns, ds = [.tup (intsD ns)] ∧ ns ≠ [] ∧ ns.length ≤ 60 ∧ R (.tup (intsD (shortest ns))) M
theorem ok_shortest (G : Wd K mg) (F : FnT K "shortest_of" "shortest_of" s_shortest_of (He.ga K "shortest_of")) : FnR Pg w K mg base CX0 1 (He.ga K "shortest_of") (spD K T pShort) := by
  obtain ⟨fd, F⟩ := F
  refine fd_ok F sc_shortest_of (F.bindsN fun _ _ _ _ _ _ us hl => match us, hl with | [_], _ => rfl) (fun ds M R h => by obtain ⟨_, rfl, _⟩ := h; rfl) fun cdv A outer s H E ds M R hr h => ?_
  obtain ⟨ns, rfl, h0, hz, h⟩ := h
  have nd := sc_shortest_of.nd
  refine set_ 1 nd (DX.cast (dx_len G.n_len (v 0) rfl) (d' := .int ns.length) (by rw [ints_len]) rfl) ?_
  have hn := List.length_pos_iff.mpr h0
  refine hs_for (ixR2 (n := ns.length - 1) G.n_range dx_int (v 1) (by omega) (by decide) (by decide) (by omega)) (fun i Γ' M' => M' = M ∧ (∃ a, Γ' = [some (.tup (intsD ns)), some (.int ns.length), a, none]) ∧ shortFrom ns (i + 1) (ns.length - 1 - i) = shortest ns) ⟨rfl, ⟨_, rfl⟩, rfl⟩ ?_ ?_ rfl PassesOwn.never
  · rintro i Γ' M' hi ⟨rfl, ⟨a, rfl⟩, e⟩
    refine ⟨_, _, gn 2 nd, ?_⟩
    have e1 : (1 : Int) + (i : Nat) = ((i + 1 : Nat) : Int) := by omega
    rw [e1]
    have ef : ns.length - 1 - i = (ns.length - 1 - (i + 1)) + 1 := by omega
    rw [ef, shortFrom] at e
    refine hs_if (wx_and (b1 := decide (ns.length % (i + 1) = 0)) (b2 := isPer ns (i + 1)) (TX.cast (tx_eq (dx_mod (v 1) (v 2) (by omega)) dx_int) ?_) (fun _ => wx_and1 (tx_val (dx_all rfl G.n_all (lcB (n := ns.length - (i + 1)) (j := 3) (fun k => decide (ns.getD (i + 1 + k) 0 = ns.getD k 0)) rfl nd (ixR2 G.n_range (v 2) (v 1) (by omega) (by omega) (by omega) (by omega))
      (blkOk_by (N := N_shortest_of) (sc := defScope s_shortest_of) (by decide +kernel)) (fun _ _ _ _ _ => pg_name nd rfl (.inl rfl)) (by omega) fun _ _ _ _ _ k hk => dx_eq (dx_ix (v 0) (v 3) rfl ?_) (dx_ix (v 0) (dx_sub (v 3) (v 2)) rfl ?_))))) (fun _ => rfl)).pt (fun hb => ?_) fun hb => ?_
    · congr 1
      apply propext
      constructor <;> intro h <;> omega
    · have := atI_ints (atI_pos (ns := ns) (i := i + 1 + k) (by omega))
      rw [← this]; congr 1
    · have := atI_ints (atI_pos (ns := ns) (i := k) (by omega))
      rw [← this]; congr 1; omega
    · rw [if_pos hb] at e
      rw [← e] at h
      refine hs_ret (dx_tuple G.n_tuple (dx_slT (v 0) ox_none (ox_some (v 2))) rfl) ?_
      rw [cutD_take, intsD_take]
      exact h
    · rw [if_neg (by rw [hb]; decide)] at e
      exact hs_nil (hs_nil ⟨rfl, ⟨_, rfl⟩, e⟩)
  · rintro Γ' M' ⟨rfl, ⟨a, rfl⟩, e⟩
    rw [Nat.sub_self, shortFrom] at e
    rw [← e] at h
    exact hs_ret (dx_tuple G.n_tuple (v 0) rfl) h
end
end Tx
end
section
set_option autoImplicit false
namespace Tx
open PySem PySem.Spec PyProof.Rows L2 Da Mi StX
abbrev big : Int := 10 ^ 30
/-- numbers that a cycle takes -/
def CyOk (ns : List Int) : Prop := ns ≠ [] ∧ ns.length ≤ 60 ∧ ∀ x ∈ ns, 0 ≤ x ∧ x ≤ big
theorem CyOk.short {ns : List Int} (h : CyOk ns) : CyOk (shortest ns) := by
  obtain ⟨h1, h2, h3⟩ := h
  obtain ⟨a, b⟩ := shortest_len h1
  exact ⟨List.length_pos_iff.mp a, by omega, fun x hx => h3 x (shortest_sub hx)⟩
theorem CyOk.rot {ns : List Int} (h : CyOk ns) (k : Int) : CyOk (rot k ns) := by
  obtain ⟨h1, h2, h3⟩ := h
  refine ⟨fun z => h1 ?_, by rw [rot_len]; exact h2, fun x hx => h3 x (rot_mem hx)⟩
  have := rot_len k ns
  rw [z] at this
  exact List.length_eq_zero_iff.mp this.symm
section
variable {Pg : Program} {w : World} {K : PySem.W.Frag} {mg : Str → Option Value} {base : Heap} {T : TL}
abbrev pCy0 (K : PySem.W.Frag) : PtD := fun ds M R => ∃ q ns, ds = [.ptr q, .tup (intsD ns)] ∧ M q = some (.mi (He.ga K "Cycle") []) ∧ CyOk ns ∧ R .non (M.set q (.mi (He.ga K "Cycle") [("numbers", .tup (intsD (shortest ns)))]))
abbrev pCy (K : PySem.W.Frag) : PtD := fun ds M R => ∃ as bs, ds = as ++ bs ∧ as.length = ["self"].length ∧ bs.length ≤ 1000000 ∧ pCy0 K (as ++ [.tup bs]) M R
theorem ok_cycle (G : Wd K mg) (F : FnT K "__init__" "Cycle.__init__" s_Cycle___init__ (He.ma K (He.ga K "Cycle") "__init__")) (F1 : FnR Pg w K mg base CX0 3 (He.ga K "first_odd") (spD K T pOdd)) (F2 : FnR Pg w K mg base CX0 1 (He.ga K "shortest_of") (spD K T pShort)) :
    FnR Pg w K mg base CX0 4 (He.ma K (He.ga K "Cycle") "__init__") (spD K T (pCy K)) := by
  obtain ⟨fd, F⟩ := F
  refine fd_star (ps := ["self"]) (P := pCy0 K) F sc_Cycle___init__ (fun kV doc pm an cdv ct => bind_star1 (B := fun us => bindArgs (PySem.W.fnOf "__init__" "Cycle.__init__" (defArgs s_Cycle___init__) (defBody s_Cycle___init__) (defScope s_Cycle___init__) .none kV doc pm an cdv ct) ⟨us, []⟩) (p1 := "self") (pv := "numbers") (fun _ => rfl) fun _ _ _ => rfl) fun cdv A outer s H E ds M R hr h => ?_
  obtain ⟨q, ns, rfl, hq, ⟨h1, h2, h3⟩, h4⟩ := h
  have nd := sc_Cycle___init__.nd
  refine set_ 2 nd (dx_call F1 hr G.g_first_odd G.k_first_odd (ax_cons (v 1) (ax_cons dx_int (ax_cons (gi G.i_MOST_NUMBER) ax_nil))) ⟨ns, 0, big, rfl, h3, rfl, rfl⟩) ?_
  refine hs_ifF (tnotN (v 2)) ?_
  refine hs_ifF (TX.cast (tx_eq (dx_len G.n_len (v 1) rfl) dx_int) ?_) (hs_ifF (TX.cast (tx_gt (dx_len G.n_len (v 1) rfl) (gi G.i_MOST_NUMBERS)) ?_) ?_)
  · have := List.length_pos_iff.mpr h1
    rw [ints_len]; exact decide_eq_false (by omega)
  · rw [ints_len]; exact decide_eq_false (by omega)
  · exact hs_fld G.c_Cycle.cl G.a_Cycle_numbers (dx_call F2 (hr.mono (by decide)) G.g_shortest_of G.k_shortest_of (ax_cons (v 1) ax_nil) ⟨ns, rfl, h1, h2, rfl, rfl⟩) (v 0) hq (by decide) (hs_nil h4)
theorem cy_make {K : PySem.W.Frag} {ns : List Int} {M : MM} (h : CyOk ns) (a : Addr) (ha : M a = none) : pCy K (.ptr a :: intsD ns) (M.set a (.mi (He.ga K "Cycle") [])) (fun d' m => d' = .non ∧ RFr (cyD K (shortest ns)) M (.ptr a) m) :=
  ⟨[.ptr a], intsD ns, rfl, rfl, by rw [ints_len]; have := h.2.1; omega, a, ns, rfl, MM.set_same, h, rfl, a, _, rfl, ha, MM.set_set, rfl⟩
abbrev pCyOf (K : PySem.W.Frag) : PtD := fun ds M R => ∃ d ns, ds = [d] ∧ d.seq = some (intsD ns) ∧ CyOk ns ∧ R (cyD K (shortest ns)) M
theorem ok_cycle_of (G : Wd K mg) (F : FnT K "cycle_of" "cycle_of" s_cycle_of (He.ga K "cycle_of")) (F1 : FnR Pg w K mg base CX0 4 (He.ma K (He.ga K "Cycle") "__init__") (spD K T (pCy K))) : FnR Pg w K mg base CX0 6 (He.ga K "cycle_of") (spD K T (pCyOf K)) := by
  obtain ⟨fd, F⟩ := F
  refine fd_ok F sc_cycle_of (F.bindsN fun _ _ _ _ _ _ us hl => match us, hl with | [_], _ => rfl) (fun ds M R h => by obtain ⟨_, _, rfl, _⟩ := h; rfl) fun cdv A outer s H E ds M R hr h => ?_
  obtain ⟨d, ns, rfl, hq, h1, h⟩ := h
  exact hs_ret (RX.freeze (rx_makeS1 F1 hr G.mk_Cycle G.g_Cycle (v 0) hq fun a ha => cy_make h1 a ha)) h
theorem ok_of (G : Wd K mg) (F : FnT K "of" "Cycle.of" s_Cycle_of (stG K (He.ga K "Cycle") "of")) (F1 : FnR Pg w K mg base CX0 4 (He.ma K (He.ga K "Cycle") "__init__") (spD K T (pCy K))) (F2 : FnR Pg w K mg base CX0 1 (He.ga K "is_row") (spD K T pRow)) :
    FnR Pg w K mg base CX0 6 (stG K (He.ga K "Cycle") "of") (spD K T (pCyOf K)) := by
  obtain ⟨fd, F⟩ := F
  refine fd_ok F sc_Cycle_of (F.bindsN fun _ _ _ _ _ _ us hl => match us, hl with | [_], _ => rfl) (fun ds M R h => by obtain ⟨_, _, rfl, _⟩ := h; rfl) fun cdv A outer s H E ds M R hr h => ?_
  obtain ⟨d, ns, rfl, hq, h1, h⟩ := h
  refine hs_ifF (tnot (b := true) (tx_val (dx_call F2 (hr.mono (by decide)) G.g_is_row G.k_is_row (ax_cons (v 0) ax_nil) ⟨_, _, rfl, hq, rfl, rfl⟩))) ?_
  exact hs_ret (RX.freeze (rx_makeS1 F1 hr G.mk_Cycle G.g_Cycle (v 0) hq fun a ha => cy_make h1 a ha)) h
theorem ok_amount (G : Wd K mg) (F : FnT K "amount" "Cycle.amount" s_Cycle_amount (prG K (He.ga K "Cycle") "amount")) : FnR Pg w K mg base CX0 1 (prG K (He.ga K "Cycle") "amount") (spD K T fun ds M R => ∃ ns, ds = [cyD K ns] ∧ R (.int ns.sum) M) := by
  obtain ⟨fd, F⟩ := F
  refine fd_ok F sc_Cycle_amount (F.bindsN fun _ _ _ _ _ _ us hl => match us, hl with | [_], _ => rfl) (fun ds M R h => by obtain ⟨_, rfl, _⟩ := h; rfl) fun cdv A outer s H E ds M R hr h => ?_
  obtain ⟨ns, rfl, h⟩ := h
  exact hs_ret (dx_sum rfl G.n_sum (dx_list G.n_list (dx_fld G.c_Cycle.cl G.a_Cycle_numbers (v 0) rfl) rfl)) h
abbrev pCyLen (K : PySem.W.Frag) : PtD := fun ds M R => ∃ ns, ds = [cyD K ns] ∧ R (.int (ns.length : Nat)) M
theorem ok_cylen (G : Wd K mg) (F : FnT K "__len__" "Cycle.__len__" s_Cycle___len__ (He.ma K (He.ga K "Cycle") "__len__")) : FnR Pg w K mg base CX0 1 (He.ma K (He.ga K "Cycle") "__len__") (spD K T (pCyLen K)) := by
  obtain ⟨fd, F⟩ := F
  refine fd_ok F sc_Cycle___len__ (F.bindsN fun _ _ _ _ _ _ us hl => match us, hl with | [_], _ => rfl) (fun ds M R h => by obtain ⟨_, rfl, _⟩ := h; rfl) fun cdv A outer s H E ds M R hr h => ?_
  obtain ⟨ns, rfl, h⟩ := h
  refine hs_ret (dx_len G.n_len (dx_fld G.c_Cycle.cl G.a_Cycle_numbers (v 0) rfl) rfl) ?_
  rw [ints_len]; exact h
abbrev pCyAt (K : PySem.W.Frag) : PtD := fun ds M R => ∃ ns i, ds = [cyD K ns, .int i] ∧ ns ≠ [] ∧ R (.int (ns.getD (i % ns.length).toNat 0)) M
theorem atI_mod {ns : List Int} (h : ns ≠ []) (i : Int) : atI (intsD ns) (i % ns.length) = some (.int (ns.getD (i % ns.length).toNat 0)) := by
  have h1 := mod_lt' h i
  have := atI_ints (atI_pos h1)
  rw [← this]
  congr 1
  have : 0 < ns.length := List.length_pos_iff.mpr h
  have := Int.emod_nonneg i (show (ns.length : Int) ≠ 0 by omega)
  omega
theorem ok_cyat (G : Wd K mg) (F : FnT K "__getitem__" "Cycle.__getitem__" s_Cycle___getitem__ (He.ma K (He.ga K "Cycle") "__getitem__")) (F1 : FnR Pg w K mg base CX0 1 (He.ga K "is_integer") (spD K T (pIsInt K))) :
    FnR Pg w K mg base CX0 2 (He.ma K (He.ga K "Cycle") "__getitem__") (spD K T (pCyAt K)) := by
  obtain ⟨fd, F⟩ := F
  refine fd_ok F sc_Cycle___getitem__ (F.bindsN fun _ _ _ _ _ _ us hl => match us, hl with | [_, _], _ => rfl) (fun ds M R h => by obtain ⟨_, _, rfl, _⟩ := h; rfl) fun cdv A outer s H E ds M R hr h => ?_
  obtain ⟨ns, i, rfl, h1, h⟩ := h
  refine hs_ifF (tnot (b := true) (tx_val (dx_call F1 hr G.g_is_integer G.k_is_integer (ax_cons (v 1) ax_nil) ⟨_, _, true, rfl, tyd_int, kit_int_int, fun _ => kit_int_bool, rfl, rfl⟩))) ?_
  refine hs_ret (dx_ix (dx_fld G.c_Cycle.cl G.a_Cycle_numbers (v 0) rfl) (dx_mod (v 1) (dx_len G.n_len (dx_fld G.c_Cycle.cl G.a_Cycle_numbers (v 0) rfl) rfl) ?_) rfl ?_) h
  · have := List.length_pos_iff.mpr h1
    rw [ints_len]; omega
  · rw [ints_len]; exact atI_mod h1 i
abbrev pCyShl (K : PySem.W.Frag) : PtD := fun ds M R => ∃ ns k, ds = [cyD K ns, .int k] ∧ CyOk ns ∧ R (cyD K (shortest (rot k ns))) M
theorem ok_cyshl (G : Wd K mg) (F : FnT K "__lshift__" "Cycle.__lshift__" s_Cycle___lshift__ (He.ma K (He.ga K "Cycle") "__lshift__")) (F1 : FnR Pg w K mg base CX0 1 (He.ga K "is_integer") (spD K T (pIsInt K))) (F2 : FnR Pg w K mg base CX0 6 (He.ga K "cycle_of") (spD K T (pCyOf K))) :
    FnR Pg w K mg base CX0 7 (He.ma K (He.ga K "Cycle") "__lshift__") (spD K T (pCyShl K)) := by
  obtain ⟨fd, F⟩ := F
  refine fd_ok F sc_Cycle___lshift__ (F.bindsN fun _ _ _ _ _ _ us hl => match us, hl with | [_, _], _ => rfl) (fun ds M R h => by obtain ⟨_, _, rfl, _⟩ := h; rfl) fun cdv A outer s H E ds M R hr h => ?_
  obtain ⟨ns, k, rfl, h1, h⟩ := h
  have nd := sc_Cycle___lshift__.nd
  have hp := List.length_pos_iff.mpr h1.1
  refine hs_ifF (tnot (b := true) (tx_val (dx_call F1 (hr.mono (by decide)) G.g_is_integer G.k_is_integer (ax_cons (v 1) ax_nil) ⟨_, _, true, rfl, tyd_int, kit_int_int, fun _ => kit_int_bool, rfl, rfl⟩))) ?_
  refine set_ 2 nd (DX.cast (dx_len G.n_len (dx_fld G.c_Cycle.cl G.a_Cycle_numbers (v 0) rfl) rfl) (d' := .int (ns.length : Nat)) (by rw [ints_len]) rfl) ?_
  refine hs_ret (dx_call F2 hr G.g_cycle_of G.k_cycle_of (ax_cons (lcI (n := ns.length) (j := 3) (fun (a : Nat) => ns.getD ((a + k) % ns.length).toNat 0) rfl nd (ixR G.n_range (v 2) (by have := h1.2.1; omega)) (blkOk_by (N := N_Cycle___lshift__) (sc := defScope s_Cycle___lshift__) (by decide +kernel)) (fun _ _ _ _ _ => pg_name nd rfl (.inl rfl)) (by have := h1.2.1; omega)
    fun _ _ _ _ _ i hi => dx_ix (dx_fld G.c_Cycle.cl G.a_Cycle_numbers (v 0) rfl) (dx_mod (dx_add (v 3) (v 1)) (v 2) (by omega)) rfl (atI_mod h1.1 _)) ax_nil) ⟨_, _, rfl, rfl, h1.rot k, rfl, rfl⟩) h
theorem ok_cyeq (G : Wd K mg) (F : FnT K "__eq__" "Cycle.__eq__" s_Cycle___eq__ (He.ma K (He.ga K "Cycle") "__eq__")) : FnR Pg w K mg base CX0 1 (He.ma K (He.ga K "Cycle") "__eq__") (spD K T fun ds M R => ∃ ns, ds = [cyD K ns, cyD K ns] ∧ R (.bl true) M) := by
  obtain ⟨fd, F⟩ := F
  refine fd_ok F sc_Cycle___eq__ (F.bindsN fun _ _ _ _ _ _ us hl => match us, hl with | [_, _], _ => rfl) (fun ds M R h => by obtain ⟨_, rfl, _⟩ := h; rfl) fun cdv A outer s H E ds M R hr h => ?_
  obtain ⟨ns, rfl, h⟩ := h
  exact hs_ret (dx_and (b1 := true) (dx_isi G.n_isinstance (v 1) (gr G.g_Cycle) (tyd_ins G.c_Cycle) (.own _) G.kit_Cycle_Cycle) (fun _ => dx_one (dx_eqSame hr.units (dx_fld G.c_Cycle.cl G.a_Cycle_numbers (v 0) rfl) (dx_fld G.c_Cycle.cl G.a_Cycle_numbers (v 1) rfl) (py_intsT ns) (py_intsT ns) (shp_tup (lay_ints ns)))) (fun z => nomatch z)) h
abbrev pLead (K : PySem.W.Frag) : PtD := fun ds M R => ∃ (m : Int), (∃ x, ds = [.int x, .int m] ∧ 0 ≤ x ∧ x ≤ m - 1 ∧ m ≤ 1000 ∧ R (cyD K [x]) M) ∨ ∃ ns, ds = [cyD K ns, .int m] ∧ (∀ x ∈ ns, x < m) ∧ ns.length ≤ 60 ∧ R (cyD K ns) M
theorem ok_lead_of (G : Wd K mg) (F : FnT K "lead_of" "lead_of" s_lead_of (He.ga K "lead_of")) (F1 : FnR Pg w K mg base CX0 2 (He.ga K "is_between") (spD K T (pBtw K))) (F2 : FnR Pg w K mg base CX0 4 (He.ma K (He.ga K "Cycle") "__init__") (spD K T (pCy K))) :
    FnR Pg w K mg base CX0 6 (He.ga K "lead_of") (spD K T (pLead K)) := by
  obtain ⟨fd, F⟩ := F
  refine fd_ok F sc_lead_of (F.bindsN fun _ _ _ _ _ _ us hl => match us, hl with | [_, _], _ => rfl) (fun ds M R h => by obtain ⟨_, ⟨_, rfl, _⟩ | ⟨_, rfl, _⟩⟩ := h <;> rfl) fun cdv A outer s H E ds M R hr h => ?_
  have nd := sc_lead_of.nd
  obtain ⟨m, ⟨x, rfl, h1, h2, h3, h⟩ | ⟨ns, rfl, h1, hz, h⟩⟩ := h
  · refine hs_ifT (tx_val (dx_call F1 (hr.mono (by decide)) G.g_is_between G.k_is_between (ax_cons (v 0) (ax_cons dx_int (ax_cons (dx_sub (v 1) dx_int) ax_nil))) ⟨_, _, _, rfl, .inl ⟨_, rfl, ?_, rfl⟩⟩)) ?_
    · rw [decide_eq_true h1, decide_eq_true h2]; rfl
    · exact hs_ret (RX.freeze (rx_make F2 hr G.mk_Cycle G.g_Cycle (ax_cons (v 0) ax_nil) fun a ha => cy_make (ns := [x]) ⟨by simp, by simp, fun y hy => by simp at hy; subst hy; exact ⟨h1, show y ≤ 10 ^ 30 by omega⟩⟩ a ha)) h
  · refine hs_ifF (tx_val (dx_call F1 (hr.mono (by decide)) G.g_is_between G.k_is_between (ax_cons (v 0) (ax_cons dx_int (ax_cons (dx_sub (v 1) dx_int) ax_nil))) ⟨_, _, _, rfl, .inr ⟨_, tyd_ins G.c_Cycle, G.kit_Cycle_int, rfl, rfl⟩⟩)) ?_
    refine hs_ifF (wx_or (b1 := false) (b2 := false) (tnot (b := true) (tx_val (dx_isi G.n_isinstance (v 0) (gr G.g_Cycle) (tyd_ins G.c_Cycle) (.own _) G.kit_Cycle_Cycle))) (fun _ => wx_or1 (tnot (b := true) (tx_val (DX.cast (dx_all rfl G.n_all (lcB (n := ns.length) (j := 2) (fun k => decide (ns.getD k 0 < m)) rfl nd (ixTI (dx_fld G.c_Cycle.cl G.a_Cycle_numbers (v 0) rfl)) (blkOk_by (N := N_lead_of) (sc := defScope s_lead_of) (by decide +kernel)) (fun _ _ _ _ _ => pg_name nd rfl (.inl rfl)) (by omega)
      fun _ _ _ _ _ k hk => dx_lt (v 2) (v 1))) ?_ rfl)))) (fun z => nomatch z)).pt ?_
    · congr 1
      congr 1
      rw [List.all_eq_true]
      intro b hb
      obtain ⟨k, hk, rfl⟩ := List.mem_map.mp hb
      exact decide_eq_true (h1 _ (Mi.getD_mem (List.mem_range.mp hk)))
    · exact hs_ret (v 0) h
theorem ok_need_beat (G : Wd K mg) (F : FnT K "need_beat" "need_beat" s_need_beat (He.ga K "need_beat")) (F1 : FnR Pg w K mg base CX0 1 (He.ga K "is_integer") (spD K T (pIsInt K))) : FnR Pg w K mg base CX0 2 (He.ga K "need_beat") (spD K T fun ds M R => ∃ i, ds = [.int i] ∧ R .non M) := by
  obtain ⟨fd, F⟩ := F
  refine fd_ok F sc_need_beat (F.bindsN fun _ _ _ _ _ _ us hl => match us, hl with | [_], _ => rfl) (fun ds M R h => by obtain ⟨_, rfl, _⟩ := h; rfl) fun cdv A outer s H E ds M R hr h => ?_
  obtain ⟨i, rfl, h⟩ := h
  exact hs_ifF (tnot (b := true) (tx_val (dx_call F1 hr G.g_is_integer G.k_is_integer (ax_cons (v 0) ax_nil) ⟨_, _, true, rfl, tyd_int, kit_int_int, fun _ => kit_int_bool, rfl, rfl⟩))) (hs_nil h)
end
end Tx
end
section
set_option autoImplicit false
namespace Tx
open PySem PySem.Spec PyProof.Rows L2 Da Mi
section
variable {Pg : Program} {w : World} {K : PySem.W.Frag} {mg : Str → Option Value} {base : Heap} {T : TL}
abbrev pBin : PtD := fun ds M R => ∃ (n : Int) (j : Nat), ds = [.int n, .int j] ∧ -(2 ^ 60) ≤ n ∧ n ≤ 2 ^ 60 ∧ j ≤ 1000 ∧ R (.int (binI n j)) M
theorem ok_binomial (G : Wd K mg) (F : FnT K "binomial" "binomial" s_binomial (He.ga K "binomial")) : FnR Pg w K mg base CX0 1 (He.ga K "binomial") (spD K T pBin) := by
  obtain ⟨fd, F⟩ := F
  refine fd_ok F sc_binomial (F.bindsN fun _ _ _ _ _ _ us hl => match us, hl with | [_, _], _ => rfl) (fun ds M R h => by obtain ⟨n, j, rfl, _⟩ := h; rfl) fun cdv A outer s H E ds M R hr h => ?_
  obtain ⟨n, j, rfl, h1, h2, h3, h4⟩ := h
  have nd := sc_binomial.nd
  refine set_ 2 nd dx_int (hs_for (ixR G.n_range (v 1) (by omega)) (fun i Γ' M' => M' = M ∧ ∃ a, Γ' = [some (.int n), some (.int j), some (.int (binI n i)), a]) ⟨rfl, _, rfl⟩ ?_ ?_ rfl PassesOwn.never)
  · rintro i Γ' M' hi ⟨rfl, a, rfl⟩
    exact ⟨_, _, gn 3 nd, set_ 2 nd (dx_fdiv (dx_mul (v 2) (dx_sub (v 0) (v 3)) (.inr ⟨by omega, by omega⟩)) (dx_add (v 3) dx_int) ⟨by omega, by omega⟩) (hs_nil ⟨rfl, _, rfl⟩)⟩
  · rintro Γ' M' ⟨rfl, a, rfl⟩
    exact hs_ret (v 2) h4
theorem ok_chosen (G : Wd K mg) (F : FnT K "_law_chosen" "_law_chosen" s__law_chosen (He.ga K "_law_chosen")) : FnR Pg w K mg base CX0 1 (He.ga K "_law_chosen") (spD K T pBin) := by
  obtain ⟨fd, F⟩ := F
  refine fd_ok F sc__law_chosen (F.bindsN fun _ _ _ _ _ _ us hl => match us, hl with | [_, _], _ => rfl) (fun ds M R h => by obtain ⟨n, j, rfl, _⟩ := h; rfl) fun cdv A outer s H E ds M R hr h => ?_
  obtain ⟨n, j, rfl, h1, h2, h3, h4⟩ := h
  have nd := sc__law_chosen.nd
  refine set_ 2 nd dx_int (hs_for (ixR G.n_range (v 1) (by omega)) (fun i Γ' M' => M' = M ∧ ∃ a, Γ' = [some (.int n), some (.int j), some (.int (binI n i)), a]) ⟨rfl, _, rfl⟩ ?_ ?_ rfl PassesOwn.never)
  · rintro i Γ' M' hi ⟨rfl, a, rfl⟩
    exact ⟨_, _, gn 3 nd, set_ 2 nd (dx_fdiv (dx_mul (v 2) (dx_sub (v 0) (v 3)) (.inr ⟨by omega, by omega⟩)) (dx_add (v 3) dx_int) ⟨by omega, by omega⟩) (hs_nil ⟨rfl, _, rfl⟩)⟩
  · rintro Γ' M' ⟨rfl, a, rfl⟩
    exact hs_ret (v 2) h4
abbrev pWgh : PtD := fun ds M R => ∃ xs, ds = [.lst (intsD xs)] ∧ 0 < xs.length ∧ xs.length ≤ 100 ∧ (∀ x ∈ xs, -(2 ^ 60) ≤ x ∧ x ≤ 2 ^ 60) ∧ R (.int (wgh xs)) M
theorem ok_weighed (G : Wd K mg) (F : FnT K "weighed" "weighed" s_weighed (He.ga K "weighed")) (F1 : FnR Pg w K mg base CX0 1 (He.ga K "binomial") (spD K T pBin)) : FnR Pg w K mg base CX0 2 (He.ga K "weighed") (spD K T pWgh) := by
  obtain ⟨fd, F⟩ := F
  refine fd_ok F sc_weighed (F.bindsN fun _ _ _ _ _ _ us hl => match us, hl with | [_], _ => rfl) (fun ds M R h => by obtain ⟨n, rfl, _⟩ := h; rfl) fun cdv A outer s H E ds M R hr h => ?_
  obtain ⟨xs, rfl, h1, h2, h3, h4⟩ := h
  have nd := sc_weighed.nd
  have em : ((intsD xs).length : Int) - 1 = ((xs.length - 1 : Nat) : Int) := by rw [ints_len]; omega
  refine set_ 1 nd (DX.cast (dx_sub (dx_len G.n_len (v 0) rfl) dx_int) (congrArg Dat.int em) rfl) (hs_ret (dx_sum rfl G.n_sum (lcI (n := xs.length) (j := 2) (fun (a : Nat) => (1 - 2 * ((a : Int) % 2)) * binI ((xs.length - 1 : Nat) : Int) a * xs.getD (xs.length - 1 - a) 0) rfl nd (ixR G.n_range (DX.cast (dx_add (v 1) dx_int) (congrArg Dat.int (by omega)) rfl) (by omega))
    (blkOk_by (N := N_weighed) (sc := defScope s_weighed) (by decide +kernel)) (fun _ _ _ _ _ => pg_name nd rfl (.inl rfl)) (by omega) fun _ _ _ _ _ i hi => ?_)) ?_)
  · have hx := h3 _ (getD_mem (xs := xs) (i := xs.length - 1 - i) (by omega))
    refine dx_mul (dx_mul (dx_sub dx_int (dx_mul dx_int (dx_mod (v 2) dx_int (by decide)) (.inl ⟨by decide, by decide⟩))) (dx_call F1 hr G.g_binomial G.k_binomial (ax_cons (v 1) (ax_cons (v 2) ax_nil)) ⟨_, i, rfl, by omega, by omega, by omega, rfl, rfl⟩) (.inl ⟨by omega, by omega⟩)) (dx_ix (v 0) (dx_sub (v 1) (v 2)) rfl ?_) (.inr ⟨by omega, by omega⟩)
    have := atI_ints (atI_pos (ns := xs) (i := xs.length - 1 - i) (by omega))
    rw [← this]
    congr 1
    omega
  · exact h4
abbrev pCoefs : PtD := fun ds M R => ∃ (xs : List Int) (m : Int) (d : Dat), ds = [d, .int m] ∧ d.seq = some (intsD xs) ∧ xs.length ≤ 100 ∧ 0 < m ∧ R (.tup (intsD (coefs m xs))) M
theorem ok_coefs_of (G : Wd K mg) (F : FnT K "coefs_of" "coefs_of" s_coefs_of (He.ga K "coefs_of")) : FnR Pg w K mg base CX0 1 (He.ga K "coefs_of") (spD K T pCoefs) := by
  obtain ⟨fd, F⟩ := F
  refine fd_ok F sc_coefs_of (F.bindsN fun _ _ _ _ _ _ us hl => match us, hl with | [_, _], _ => rfl) (fun ds M R h => by obtain ⟨n, _, _, rfl, _⟩ := h; rfl) fun cdv A outer s H E ds M R hr h => ?_
  obtain ⟨xs, m, d, rfl, hq, h1, h2, h3⟩ := h
  have nd := sc_coefs_of.nd
  refine hs_asg (tup2 (dx_lst ax_nil) (dx_list G.n_list (v 0) hq)) (gx_tup rfl (gxs_cons (gn 2 nd) (gxs_cons (gn 3 nd) gxs_nil))) ?_
  refine hs_while (fun k Γ' M' => M' = M ∧ ∃ done row, Γ' = [some d, some (.int m), some (.lst (intsD done)), some (.lst (intsD row)), none] ∧ k = row.length ∧ done ++ coefs m row = coefs m xs ∧ done.length + row.length ≤ 100) xs.length ⟨rfl, [], xs, rfl, rfl, rfl, by simpa using h1⟩ ?_ PassesOwn.never
  rintro k Γ' M' ⟨rfl, done, row, rfl, rfl, e, hz⟩
  cases row with
  | nil =>
    refine ⟨false, _, tNeSame (q := .list []) hr.units (v 3) (dx_lst ax_nil) rfl rfl rfl, (fun z => nomatch z), fun _ => ?_⟩
    have e' : done = coefs m xs := by rw [← e, coefs, List.append_nil]
    rw [e']
    exact hs_ret (dx_tuple G.n_tuple (v 2) rfl) h3
  | cons x r =>
    refine ⟨true, _, tNeNil hr.units (v 3) (dx_lst ax_nil) (py_ints (x :: r)) (shp_list (lay_ints (x :: r))), fun _ => ?_, fun z => nomatch z⟩
    have hz' : r.length + 1 ≤ 100 := by simp at hz; omega
    have hd : done.length + (r.length + 1) ≤ 100 := by simpa using hz
    refine set_ 2 nd (dx_lst (ax_star (v 2) rfl (ax_cons (dx_mod (dx_ix (v 3) dx_int rfl (atI_ints (atI_pos (ns := x :: r) (i := 0) (by simp)))) (v 1) h2) ax_nil)) ?_) (set_ 3 nd (lcI (n := r.length) (j := 4) (fun i => (x :: r).getD (i + 1) 0 - (x :: r).getD i 0) rfl nd (ixR G.n_range (DX.cast (dx_sub (dx_len G.n_len (v 3) rfl) dx_int) (congrArg Dat.int ?_) rfl) ?_)
      (blkOk_by (N := N_coefs_of) (sc := defScope s_coefs_of) (by decide +kernel)) (fun _ _ _ _ _ => pg_name nd rfl (.inl rfl)) ?_ (fun _ _ _ _ _ i hi => ?_)) (hs_nil ⟨r.length, ?_, rfl, done ++ [x % m], diffs (x :: r), ?_, ?_, ?_, ?_⟩))
    · simp [ints_len]; omega
    · rw [ints_len]; simp
    · omega
    · omega
    · refine dx_sub (dx_ix (v 3) (dx_add (v 4) dx_int) rfl (atI_ints (atI_pos (ns := x :: r) (i := i + 1) (by simpa using hi)))) (dx_ix (v 3) (v 4) rfl (atI_ints (atI_pos (ns := x :: r) (i := i) (by simp; omega))))
    · simp
    · have e1 : (List.range r.length).map (fun i => (x :: r).getD (i + 1) 0 - (x :: r).getD i 0) = diffs (x :: r) := by
        apply List.ext_getElem
        · rw [diffs_len]; simp
        · intro i h1 h2
          have hi : i + 1 < (x :: r).length := by rw [diffs_len] at h2; simp at h2; simpa using h2
          have := diffs_getD (x :: r) i hi
          simp only [List.getElem_map, List.getElem_range]
          rw [← this]
          simp [List.getD_eq_getElem?_getD, h2]
      rw [e1]
      simp [intsD]
    · rw [diffs_len]; simp
    · rw [coefs] at e; rw [← e]; simp
    · rw [diffs_len]; simp; omega
end
end Tx
end
section
set_option autoImplicit false
namespace Tx
open PySem PySem.Spec PyProof.Rows L2 Da Mi StX
def rowsD (rws : List (List Int)) : List Dat := rws.map fun r => .tup (intsD r)
def tabsD (r : Rn) : Dat := .lst ((List.range r.lead.length).map fun a => .lst ((List.range r.n).map fun k => .tup (intsD (r.tab a k))))
def runF (K : PySem.W.Frag) (r : Rn) : List (Str × Dat) := [("chain", chD K r.late r.m r.n), ("lead", cyD K r.lead), ("starts", .tup (intsD r.starts)), ("tables", tabsD r)]
def runD (K : PySem.W.Frag) (r : Rn) : Dat := .ins (He.ga K "Run") (runF K r)
/-- the scope of the list that is returned behind two statements; behind one -/
def lcScope (e : Expr) : Scope := match e with
  | .ListComp _ _ sc _ => sc
  | _ => ⟨.function, [], false, false, []⟩
def retOf (st : Stmt) : Expr := match st with
  | .Return (some e) _ => e
  | _ => .Name "x" ⟨0, 0, 0, 0⟩
section
variable {Pg : Program} {w : World} {K : PySem.W.Frag} {mg : Str → Option Value} {base : Heap} {T : TL}
def sc_tab : Scope := relS (lcScope (retOf ((defBody s_Run_table_of).getD 1 (.Pass ⟨0, 0, 0, 0⟩)))) (defScope s_Run_table_of)
abbrev pTable (K : PySem.W.Frag) : PtD := fun ds M R => ∃ q fs late m n rws, ds = [.ptr q, .lst (rowsD rws)] ∧ M q = some (.mi (He.ga K "Run") fs) ∧ fs.lookup ("chain" : Str) = some (chD K late m n) ∧ 0 < m ∧ n ≤ 6 ∧ rws.length = n + 1 ∧ (∀ r ∈ rws, r.length = n) ∧
  R (.lst ((List.range n).map fun k => .tup (intsD (coefs m ((rws.take (k + 2)).map fun r => r.getD k 0))))) M
theorem ok_table_of (G : Wd K mg) (F : FnT K "table_of" "Run.table_of" s_Run_table_of (He.ma K (He.ga K "Run") "table_of")) (F1 : FnR Pg w K mg base CX0 1 (He.ga K "coefs_of") (spD K T pCoefs)) : FnR Pg w K mg base CX0 2 (He.ma K (He.ga K "Run") "table_of") (spD K T (pTable K)) := by
  obtain ⟨fd, F⟩ := F
  refine fd_ok F sc_Run_table_of (F.bindsN fun _ _ _ _ _ _ us hl => match us, hl with | [_, _], _ => rfl) (fun ds M R h => by obtain ⟨_, _, _, _, _, _, rfl, _⟩ := h; rfl) fun cdv A outer s H E ds M R hr h => ?_
  obtain ⟨q, fs, late, m, n, rws, rfl, hq, hf, h1, h2, h3, h4, h⟩ := h
  have nd := sc_Run_table_of.nd
  refine hs_asg (tup2 (dx_fld (G.cC late).cl (G.aS late) (dx_fldM G.c_Run.cl G.a_Run_chain (v 0) hq hf) rfl) (dx_fld (G.cC late).cl (G.aM late) (dx_fldM G.c_Run.cl G.a_Run_chain (v 0) hq hf) rfl)) (gx_tup rfl (gxs_cons (gn 2 nd) (gxs_cons (gn 3 nd) gxs_nil))) ?_
  refine hs_ret (lcD (n := n) (j := 4) (fun k => .tup (intsD (coefs m ((rws.take (k + 2)).map fun (r : List Int) => r.getD k 0)))) rfl nd (ixR G.n_range (v 2) (by omega)) (blkOk_by (N := N_Run_table_of) (sc := defScope s_Run_table_of) (by decide +kernel)) (fun _ _ _ _ _ => pg_name nd rfl (.inr rfl)) (by omega) fun _ _ _ _ _ k hk => ?_) h
  have ek : ((rws.take (k + 2)).length) = k + 2 := by rw [List.length_take]; omega
  refine dx_call F1 hr G.g_coefs_of G.k_coefs_of (ax_cons (DX.cast (lcI (n := k + 2) (j := 5) (xs := fun i => .tup (intsD (rws.getD i []))) (fun i => (rws.getD i []).getD k 0) rfl nd (IX.congr (ix_list (dx_slL (v 1) ox_none (ox_some (dx_add (v 4) dx_int)))) ?_ ?_) (blkOk_by (N := N_Run_table_of) (sc := sc_tab) (by decide +kernel)) (fun _ _ _ _ _ => pg_name nd rfl (.inl rfl)) (by omega)
    fun _ _ _ _ _ i hi => dx_ix (v 5) (v 4) rfl (atI_ints (atI_pos ?_))) (d' := .lst (intsD ((rws.take (k + 2)).map fun (r : List Int) => r.getD k 0))) ?_ rfl) (ax_cons (v 3) ax_nil)) ⟨_, m, _, rfl, rfl, ?_, h1, rfl, rfl⟩
  · rw [show ((k : Nat) : Int) + 2 = ((k + 2 : Nat) : Int) by omega, cutD_take, List.length_take, rowsD, List.length_map]; omega
  · intro i hi
    rw [show ((k : Nat) : Int) + 2 = ((k + 2 : Nat) : Int) by omega, cutD_take] at hi ⊢
    have hi2 : i < k + 2 := by rw [List.length_take] at hi; omega
    have hi3 : i < rws.length := by omega
    simp [rowsD, List.getD_eq_getElem?_getD, List.getElem?_take, hi2, hi3]
  · have hi3 : i < rws.length := by omega
    rw [h4 (rws.getD i []) (by simp [List.getD_eq_getElem?_getD, hi3])]; exact hk
  · congr 2
    apply List.ext_getElem
    · simp [ek]; omega
    · intro i a b
      have hi : i < k + 2 := by simpa using a
      have hi3 : i < rws.length := by omega
      simp [List.getD_eq_getElem?_getD, hi3]
  · rw [List.length_map, ek]; omega
end
end Tx
end
section
set_option autoImplicit false
namespace Tx
open PySem PySem.Spec PyProof.Rows L2 Da Mi StX
section
variable {Pg : Program} {w : World} {K : PySem.W.Frag} {mg : Str → Option Value} {base : Heap} {T : TL}
theorem atI_rows {rws : List (List Int)} {i : Nat} (h : i < rws.length) : atI (rowsD rws) (i : Int) = some (.tup (intsD (rws.getD i []))) := by
  apply atI_nat
  simp [rowsD, List.getD_eq_getElem?_getD, h]
def sc_rec : Scope := relS (lcScope (retOf ((defBody s_Run_reckoned).getD 2 (.Pass ⟨0, 0, 0, 0⟩)))) (defScope s_Run_reckoned)
def run3 (K : PySem.W.Frag) (r : Rn) : List (Str × Dat) := [("chain", chD K r.late r.m r.n), ("lead", cyD K r.lead), ("starts", .tup (intsD r.starts))]
abbrev pReck (K : PySem.W.Frag) : PtD := fun ds M R => ∃ q r, ds = [.ptr q] ∧ M q = some (.mi (He.ga K "Run") (run3 K r)) ∧ r.Ok ∧ R (tabsD r) M
theorem ok_reckoned (G : Wd K mg) (F : FnT K "reckoned" "Run.reckoned" s_Run_reckoned (He.ma K (He.ga K "Run") "reckoned")) (F1 : FnR Pg w K mg base CX0 2 (He.ma K (He.ga K "Run") "table_of") (spD K T (pTable K)))
    (F2 : FnR Pg w K mg base CX0 2 (He.ga K "beat_of") (spD K T (pBeat K))) (F3 : FnR Pg w K mg base CX0 1 (He.ma K (He.ga K "Cycle") "__len__") (spD K T (pCyLen K))) (F4 : FnR Pg w K mg base CX0 2 (He.ma K (He.ga K "Cycle") "__getitem__") (spD K T (pCyAt K))) :
    FnR Pg w K mg base CX0 4 (He.ma K (He.ga K "Run") "reckoned") (spD K T (pReck K)) := by
  obtain ⟨fd, F⟩ := F
  refine fd_ok F sc_Run_reckoned (F.bindsN fun _ _ _ _ _ _ us hl => match us, hl with | [_], _ => rfl) (fun ds M R h => by obtain ⟨_, _, rfl, _⟩ := h; rfl) fun cdv A outer s H E ds M R hr h => ?_
  obtain ⟨q, r, rfl, hq, ok, h⟩ := h
  have nd := sc_Run_reckoned.nd
  have hL := List.length_pos_iff.mpr ok.l0
  have hL9 := ok.l9
  have hn1 := ok.n1
  have hn6 := ok.n6
  have hLn : r.lead.length * (r.n + 1) ≤ 420 := Nat.le_trans (Nat.mul_le_mul hL9 (Nat.succ_le_succ hn6)) (by decide)
  have hLp : 0 < r.lead.length * (r.n + 1) := Nat.mul_pos hL (by omega)
  refine hs_asg (tup2 (dx_lenO G.n_len G.f_Cycle___len__ G.fn_Cycle___len__ F3 (hr.mono (by decide)) (dx_fldM G.c_Run.cl G.a_Run_lead (v 0) hq rfl) (.inl ⟨_, rfl⟩) ⟨r.lead, rfl, rfl, rfl⟩ (by omega)) (DX.cast (dx_lst (ax_cons (dx_fldM G.c_Run.cl G.a_Run_starts (v 0) hq rfl) ax_nil) (by simp)) (d' := .lst (rowsD ((List.range 1).map r.row))) rfl rfl)) (gx_tup rfl (gxs_cons (gn 1 nd) (gxs_cons (gn 2 nd) gxs_nil))) ?_
  refine hs_while (fun k Γ' M' => M' = M ∧ ∃ t, Γ' = [some (.ptr q), some (.int r.lead.length), some (.lst (rowsD ((List.range (t + 1)).map r.row))), none, none] ∧ k = r.lead.length * (r.n + 1) - (t + 1) ∧ t + 1 ≤ r.lead.length * (r.n + 1)) _ ⟨rfl, 0, rfl, rfl, by omega⟩ ?_ PassesOwn.never
  rintro k Γ' M' ⟨rfl, t, rfl, rfl, ht⟩
  have hlen : (rowsD ((List.range (t + 1)).map r.row)).length = t + 1 := by simp [rowsD]
  refine ⟨decide (t + 1 < r.lead.length * (r.n + 1)), _, TX.cast (tx_lt (dx_len G.n_len (v 2) rfl) (dx_mul (v 1) (dx_add (dx_fld (G.cC r.late).cl (G.aS r.late) (dx_fldM G.c_Run.cl G.a_Run_chain (v 0) hq rfl) rfl) dx_int) (.inl ⟨by omega, by omega⟩))) ?_, fun hb => ?_, fun hb => ?_⟩
  · rw [hlen]
    congr 1
    apply propext
    rw [show (r.lead.length : Int) * ((r.n : Int) + 1) = ((r.lead.length * (r.n + 1) : Nat) : Int) by rw [Int.natCast_mul]; rfl]
    omega
  · have hb := of_decide_eq_true hb
    refine set_ 2 nd (dx_lst (ax_star (v 2) rfl (ax_cons (dx_ix (dx_call F2 (hr.mono (by decide)) G.g_beat_of G.k_beat_of (ax_cons (dx_fldM G.c_Run.cl G.a_Run_chain (v 0) hq rfl) (ax_cons (dx_ix (v 2) (dx_neg dx_int) rfl ?_) (ax_cons (dx_ixO G.f_Cycle___getitem__ G.fn_Cycle___getitem__ G.fi_Cycle F4 (hr.mono (by decide)) (dx_fldM G.c_Run.cl G.a_Run_lead (v 0) hq rfl) (dx_sub (dx_len G.n_len (v 2) rfl) dx_int) (.inl ⟨_, rfl⟩) ⟨r.lead, _, rfl, ok.l0, rfl, rfl⟩) ax_nil)))
      ⟨r.late, r.m, r.n, r.row t, _, rfl, ?_, rfl, rfl⟩) dx_int rfl rfl) ax_nil)) ?_) (hs_nil ⟨_, ?_, rfl, t + 1, ?_, rfl, by omega⟩)
    · rw [List.range_succ, rowsD, List.map_append, List.map_append]
      exact atI_last _ _
    · rw [Rn.row_len ok]; omega
    · rw [List.length_append, hlen]; simp; omega
    · omega
    · have e : (rowsD ((List.range (t + 1 + 1)).map r.row)) = rowsD ((List.range (t + 1)).map r.row) ++ [.tup (intsD (r.row (t + 1)))] := by
        rw [List.range_succ (n := t + 1), List.map_append, rowsD, List.map_append]; rfl
      rw [e, Rn.row, hlen]
      have em : (((t + 1 : Nat) : Int) - 1) % (r.lead.length : Int) = ((t % r.lead.length : Nat) : Int) := by
        rw [show (((t + 1 : Nat) : Int) - 1) = (t : Int) by omega]; rfl
      rw [em, Int.toNat_natCast]
      rfl
  · have hb := of_decide_eq_false hb
    have et : t + 1 = r.lead.length * (r.n + 1) := by omega
    refine hs_ret (lcD (n := r.lead.length) (j := 3) (fun a => .lst ((List.range r.n).map fun k => .tup (intsD (r.tab a k)))) rfl nd (ixR G.n_range (v 1) (by omega)) (blkOk_by (N := N_Run_reckoned) (sc := defScope s_Run_reckoned) (by decide +kernel)) (fun _ _ _ _ _ => pg_name nd rfl (.inr rfl)) (by omega) fun _ _ _ _ _ a ha => ?_) h
    have hrw : ∀ j, j < r.n + 1 → a + r.lead.length * j < t + 1 := fun j hj => by
      rw [et]
      have : r.lead.length * j ≤ r.lead.length * r.n := Nat.mul_le_mul_left _ (by omega)
      rw [Nat.mul_succ]
      omega
    refine DX.cast (dx_meth F1 (hr.mono (by decide)) G.c_Run.cl G.m_Run_table_of (v 0) (.inr ⟨q, _, rfl, hq, rfl⟩) (ax_cons (DX.cast (lcD (n := r.n + 1) (j := 4) (fun j => .tup (intsD (r.row (a + r.lead.length * j)))) rfl nd (ixR G.n_range (DX.cast (dx_add (dx_fld (G.cC r.late).cl (G.aS r.late) (dx_fldM G.c_Run.cl G.a_Run_chain (v 0) hq rfl) rfl) dx_int) (d' := .int ((r.n + 1 : Nat) : Int)) rfl rfl) (by omega)) (blkOk_by (N := N_Run_reckoned) (sc := sc_rec) (by decide +kernel)) (fun _ _ _ _ _ => pg_name nd rfl (.inl rfl)) (by omega)
      fun _ _ _ _ _ j hj => dx_ix (v 2) (dx_add (v 3) (dx_mul (v 1) (v 4) (.inl ⟨by omega, by omega⟩))) rfl ?_) (d' := .lst (rowsD ((List.range (r.n + 1)).map fun j => r.row (a + r.lead.length * j)))) (by rw [rowsD, List.map_map]; rfl) rfl) ax_nil) ⟨q, _, r.late, r.m, r.n, _, rfl, hq, rfl, by have := ok.m2; omega, hn6, by simp, fun x hx => ?_, rfl, rfl⟩) ?_ rfl
    · have := atI_rows (rws := (List.range (t + 1)).map r.row) (i := a + r.lead.length * j) (by simpa using hrw j hj)
      rw [show ((a : Nat) : Int) + (r.lead.length : Int) * (j : Nat) = ((a + r.lead.length * j : Nat) : Int) by rw [Int.natCast_add, Int.natCast_mul]]
      rw [this]
      have := hrw j hj
      simp [List.getD_eq_getElem?_getD, this]
    · obtain ⟨j, hj, rfl⟩ := List.mem_map.mp hx
      exact Rn.row_len ok _
    · congr 1
      apply List.map_congr_left
      intro k hk
      have hk := List.mem_range.mp hk
      unfold Rn.tab
      rw [← List.map_take, List.take_range, Nat.min_eq_left (by omega), List.map_map]
      rfl
end
end Tx
end
section
set_option autoImplicit false
namespace Tx
open PySem PySem.Spec PyProof.Rows L2 Da Mi StX
section
variable {Pg : Program} {w : World} {K : PySem.W.Frag} {mg : Str → Option Value} {base : Heap} {T : TL}
theorem inV_ints {i : Int} : ∀ {ns : List Int}, i ∈ ns → inV (.int i) (ns.map V.int) = true := fun {ns} h => by
  unfold inV
  rw [List.any_eq_true]
  exact ⟨.int i, List.mem_map.mpr ⟨i, h, rfl⟩, by simp [eqV]⟩
/-- i not in (a, b), it is there -/
theorem tnotin {X : Cx} {Γ : Gm} {M M1 M2 : MM} {a b : Expr} {pos : Pos} {i : Int} {ns : List Int} (ha : DX X T Γ M a (.int i) M1) (hb : DX X T Γ M1 b (.tup (intsD ns)) M2) (h : i ∈ ns) (hm : behindInMarks .NotIn b = false := by rfl) : TX X T Γ M (.Compare a [.NotIn] [b] pos) false M2 :=
  tx_cmp op_notIn_seq ha hb hm fun D H x y Q s r1 r2 k => by
    cases r1
    cases r2 with | @tup p xs _ h1 q1 =>
    have e := q1.ints
    subst e
    refine ⟨p, _, rfl, .inr (SqT.of (s.ex _ _ h1)), rfl, ?_, ?_⟩
    · rw [List.all_eq_true]; intro x hx; obtain ⟨n, _, rfl⟩ := List.mem_map.mp hx; rfl
    · rw [if_pos rfl, inV_ints h]; exact k
/-- what a run is made of -/
def leadIn (K : PySem.W.Frag) (m : Int) (d : Dat) (lead : List Int) : Prop := (∃ x, d = .int x ∧ lead = [x] ∧ 0 ≤ x ∧ x ≤ m - 1) ∨ (d = cyD K lead)
abbrev pRun0 (K : PySem.W.Frag) : PtD := fun ds M R => ∃ q r d, ds = [.ptr q, chD K r.late r.m r.n, d, .tup (intsD r.starts)] ∧ leadIn K r.m d r.lead ∧ M q = some (.mi (He.ga K "Run") []) ∧ r.Ok ∧ R .non (M.set q (.mi (He.ga K "Run") (runF K r)))
abbrev pRun (K : PySem.W.Frag) : PtD := fun ds M R => ∃ as bs, ds = as ++ bs ∧ as.length = ["self", "chain", "lead"].length ∧ bs.length ≤ 1000000 ∧ pRun0 K (as ++ [.tup bs]) M R
theorem bind_star3 {B : List Value → Sem (List (Str × Value))} {p1 p2 p3 pv : Str} (h0 : ∀ a b c, B [a, b, c] = (newTuple [] >>= fun t => pure [(p1, a), (p2, b), (p3, c), (pv, t)])) (h1 : ∀ a b c r rs, B (a :: b :: c :: r :: rs) = (newTuple (r :: rs) >>= fun t => pure [(p1, a), (p2, b), (p3, c), (pv, t)])) :
    ∀ us rest : List Value, us.length = [p1, p2, p3].length → B (us ++ rest) = (newTuple rest >>= fun t => pure ([p1, p2, p3].zip us ++ [(pv, t)]))
  | [a, b, c], [], _ => h0 a b c
  | [a, b, c], r :: rs, _ => h1 a b c r rs
theorem kitPL (G : Wd K mg) (late : Bool) : PySem.W.kitAny K (.ref (chC K late)) [.ref (He.ga K "Prompt"), .ref (He.ga K "Late")] = some true := by cases late; exact G.kit_Prompt_PL; exact G.kit_Late_PL
theorem ok_run (G : Wd K mg) (F : FnT K "__init__" "Run.__init__" s_Run___init__ (He.ma K (He.ga K "Run") "__init__")) (F1 : FnR Pg w K mg base CX0 6 (He.ga K "lead_of") (spD K T (pLead K))) (F2 : FnR Pg w K mg base CX0 3 (He.ga K "first_odd") (spD K T pOdd))
    (F3 : FnR Pg w K mg base CX0 4 (He.ma K (He.ga K "Run") "reckoned") (spD K T (pReck K))) : FnR Pg w K mg base CX0 7 (He.ma K (He.ga K "Run") "__init__") (spD K T (pRun K)) := by
  obtain ⟨fd, F⟩ := F
  refine fd_star (ps := ["self", "chain", "lead"]) (P := pRun0 K) F sc_Run___init__ (fun kV doc pm an cdv ct => bind_star3 (B := fun us => bindArgs (PySem.W.fnOf "__init__" "Run.__init__" (defArgs s_Run___init__) (defBody s_Run___init__) (defScope s_Run___init__) .none kV doc pm an cdv ct) ⟨us, []⟩) (p1 := "self") (p2 := "chain") (p3 := "lead") (pv := "starts") (fun _ _ _ => rfl) fun _ _ _ _ _ => rfl) fun cdv A outer s H E ds M R hr h => ?_
  obtain ⟨q, r, d, rfl, hd, hq, ok, h⟩ := h
  have nd := sc_Run___init__.nd
  have m2 := ok.m2
  have m9 := ok.m9
  refine hs_ifF (tnot (b := true) (tx_val (dx_isiT (cs := [.ref (He.ga K "Prompt"), .ref (He.ga K "Late")]) G.n_isinstance (v 1) (tup2 (gr G.g_Prompt) (gr G.g_Late)) (tyd_ins (G.cC r.late)) (.cons (.own _) (.cons (.own _) .nil)) (kitPL G r.late)))) ?_
  refine set_ 4 nd (dx_call F1 hr G.g_lead_of G.k_lead_of (ax_cons (v 2) (ax_cons (dx_fld (G.cC r.late).cl (G.aM r.late) (v 1) rfl) ax_nil)) (d := cyD K r.lead) (M2 := M) ?_) ?_
  · rcases hd with ⟨x, rfl, e, h1, h2⟩ | rfl
    · exact ⟨r.m, .inl ⟨x, rfl, h1, h2, m9, by rw [e], rfl⟩⟩
    · exact ⟨r.m, .inr ⟨r.lead, rfl, fun x hx => by have := ok.li x hx; omega, ok.l9, rfl, rfl⟩⟩
  refine hs_ifF (tisN (v 4)) ?_
  refine hs_ifF (tnotin (ns := [0, (r.n : Int)]) (dx_len G.n_len (v 3) rfl) (tup2 dx_int (dx_fld (G.cC r.late).cl (G.aS r.late) (v 1) rfl)) ?_) ?_
  · rw [ints_len, ok.s0]; simp
  refine set_ 5 nd (dx_call F2 (hr.mono (by decide)) G.g_first_odd G.k_first_odd (ax_cons (v 3) (ax_cons dx_int (ax_cons (dx_sub (dx_fld (G.cC r.late).cl (G.aM r.late) (v 1) rfl) dx_int) ax_nil))) ⟨r.starts, 0, r.m - 1, rfl, ok.si, rfl, rfl⟩) ?_
  refine hs_ifF (tnotN (v 5)) ?_
  refine hs_fld G.c_Run.cl G.a_Run_chain (v 1) (v 0) hq (by decide) ?_
  refine hs_fld G.c_Run.cl G.a_Run_lead (v 4) (v 0) MM.set_same (show 1 < 900 by decide) ?_
  refine hs_fld G.c_Run.cl G.a_Run_starts (d := .tup (intsD r.starts)) (dx_if (bb := true) (TX.cast (tx_gt (dx_len G.n_len (v 3) rfl) dx_int) ?_) (fun _ => dx_tuple G.n_tuple (v 3) rfl) (fun z => nomatch z)) (v 0) MM.set_same (show 2 < 900 by decide) ?_
  · rw [ints_len, ok.s0]; have := ok.n1; exact decide_eq_true (by omega)
  refine hs_fld G.c_Run.cl G.a_Run_tables (dx_meth0 F3 (hr.mono (by decide)) G.c_Run.cl G.m_Run_reckoned (v 0) (.inr ⟨q, _, rfl, MM.set_same, rfl⟩) ⟨q, r, rfl, MM.set_same, ok, rfl, rfl⟩) (v 0) MM.set_same (show 3 < 900 by decide) (hs_nil ?_)
  rw [MM.set_set, MM.set_set, MM.set_set]
  exact h
theorem run_make {r : Rn} {d : Dat} {M : MM} {ds : List Dat} (ok : r.Ok) (hd : leadIn K r.m d r.lead) (e : ds = chD K r.late r.m r.n :: d :: intsD r.starts) (a : Addr) (ha : M a = none) : pRun K (.ptr a :: ds) (M.set a (.mi (He.ga K "Run") [])) (fun d' m => d' = .non ∧ RFr (runD K r) M (.ptr a) m) := by
  subst e
  exact ⟨[.ptr a, chD K r.late r.m r.n, d], intsD r.starts, rfl, rfl, by rw [ints_len, ok.s0]; have := ok.n6; omega, a, r, d, rfl, hd, MM.set_same, ok, rfl, a, _, rfl, ha, MM.set_set, rfl⟩
theorem atI_map {α : Type} {f : Nat → α} {n i : Nat} (h : i < n) : atI ((List.range n).map f) (i : Int) = some (f i) := atI_nat (by simp [h])
abbrev pRest (K : PySem.W.Frag) : PtD := fun ds M R => ∃ r k b, ds = [runD K r, .int ((k + 1 : Nat) : Int), .int b] ∧ r.Ok ∧ k < r.n ∧ -(2 ^ 50) ≤ b ∧ b ≤ 2 ^ 50 ∧ R (.int (r.rest (k + 1) b)) M
theorem ok_rest_of (G : Wd K mg) (F : FnT K "rest_of" "Run.rest_of" s_Run_rest_of (He.ma K (He.ga K "Run") "rest_of")) (F1 : FnR Pg w K mg base CX0 1 (He.ga K "binomial") (spD K T pBin)) (F2 : FnR Pg w K mg base CX0 1 (He.ma K (He.ga K "Cycle") "__len__") (spD K T (pCyLen K))) :
    FnR Pg w K mg base CX0 3 (He.ma K (He.ga K "Run") "rest_of") (spD K T (pRest K)) := by
  obtain ⟨fd, F⟩ := F
  refine fd_ok F sc_Run_rest_of (F.bindsN fun _ _ _ _ _ _ us hl => match us, hl with | [_, _, _], _ => rfl) (fun ds M R h => by obtain ⟨_, _, _, rfl, _⟩ := h; rfl) fun cdv A outer s H E ds M R hr h => ?_
  obtain ⟨r, k, b, rfl, ok, hk, hb1, hb2, h⟩ := h
  have nd := sc_Run_rest_of.nd
  have hL := List.length_pos_iff.mpr ok.l0
  have hL9 := ok.l9
  have hn6 := ok.n6
  have m2 := ok.m2
  have m9 := ok.m9
  have e1 := Int.emod_nonneg b (show (r.lead.length : Int) ≠ 0 by omega)
  have e2 := Int.emod_lt_of_pos b (show (0 : Int) < r.lead.length by omega)
  have e3 := Int.emod_add_mul_ediv b r.lead.length
  have hdv : -(2 ^ 60) ≤ b / r.lead.length ∧ b / r.lead.length ≤ 2 ^ 60 := by
    exact ⟨Int.le_ediv_of_mul_le (by omega) (by omega), Int.ediv_le_of_le_mul (by omega) (by omega)⟩
  refine set_ 3 nd (dx_lenO G.n_len G.f_Cycle___len__ G.fn_Cycle___len__ F2 (hr.mono (by decide)) (dx_fld G.c_Run.cl G.a_Run_lead (v 0) rfl) (.inl ⟨_, rfl⟩) ⟨r.lead, rfl, rfl, rfl⟩ (by omega)) ?_
  refine hs_asg (tup2 (dx_ix (dx_ix (dx_fld G.c_Run.cl G.a_Run_tables (v 0) rfl) (dx_mod (v 2) (v 3) (by omega)) rfl (d := .lst ((List.range r.n).map fun k => .tup (intsD (r.tab (b % r.lead.length).toNat k)))) ?_) (dx_sub (v 1) dx_int) rfl (d := .tup (intsD (r.tab (b % r.lead.length).toNat k))) ?_) (dx_fdiv (v 2) (v 3) ⟨by omega, by omega⟩)) (gx_tup rfl (gxs_cons (gn 4 nd) (gxs_cons (gn 5 nd) gxs_nil))) ?_
  · have := atI_map (f := fun a => Dat.lst ((List.range r.n).map fun k => .tup (intsD (r.tab a k)))) (n := r.lead.length) (i := (b % r.lead.length).toNat) (by omega)
    rw [← this]
    congr 1
    omega
  · have := atI_map (f := fun k => Dat.tup (intsD (r.tab (b % r.lead.length).toNat k))) (n := r.n) (i := k) hk
    rw [← this]
    congr 1
    omega
  have hlen : (r.tab (b % r.lead.length).toNat k).length = k + 2 := by unfold Rn.tab; rw [coefs_len (k + 2) _ (by simp)]
  have hin : In r.m (r.tab (b % r.lead.length).toNat k) := coefs_in (by omega) (k + 2) _ (by simp)
  refine hs_ret (dx_mod (dx_sum rfl G.n_sum (ns := (List.range (r.tab (b % r.lead.length).toNat k).length).map fun (j : Nat) => (r.tab (b % r.lead.length).toNat k).getD j 0 * binI (b / r.lead.length) j) (DX.cast (dx_lc2 (n := (r.tab (b % r.lead.length).toNat k).length) (j := 6) (j2 := 7) (as := fun i => .int i) (bs := fun i => .int ((r.tab (b % r.lead.length).toNat k).getD i 0)) (fun _ => M) (fun j => .int ((r.tab (b % r.lead.length).toNat k).getD j 0 * binI (b / r.lead.length) j)) rfl nd (ixEI G.n_enumerate (v 4)) rfl rfl (by decide)
    (blkOk_by (N := N_Run_rest_of) (sc := defScope s_Run_rest_of) (by decide +kernel)) (fun _ _ _ _ _ => pg_tup rfl (pgs_cons (pg_name nd rfl (.inl rfl)) (pgs_cons (pg_name nd rfl (.inl rfl)) pgs_nil))) rfl (by omega) fun _ _ _ _ _ j hj => ?_) (by rw [intsD_map]) rfl)) (dx_fld (G.cC r.late).cl (G.aM r.late) (dx_fld G.c_Run.cl G.a_Run_chain (v 0) rfl) rfl) (by omega)) h
  have hx := hin _ (Mi.getD_mem hj)
  exact dx_mul (v 7) (dx_call F1 (hr.mono (by decide)) G.g_binomial G.k_binomial (ax_cons (v 5) (ax_cons (v 6) ax_nil)) ⟨_, j, rfl, hdv.1, hdv.2, by omega, rfl, rfl⟩) (.inl ⟨by omega, by omega⟩)
end
end Tx
end
section
set_option autoImplicit false
namespace Tx
open PySem PySem.Spec PyProof.Rows L2 Da Mi StX
section
variable {Pg : Program} {w : World} {K : PySem.W.Frag} {mg : Str → Option Value} {base : Heap} {T : TL}
abbrev pBeatN : PtD := fun ds M R => ∃ i, ds = [.int i] ∧ R .non M
abbrev pRests (K : PySem.W.Frag) : PtD := fun ds M R => ∃ r b, ds = [runD K r, .int b] ∧ r.Ok ∧ -(2 ^ 50) ≤ b ∧ b ≤ 2 ^ 50 ∧ R (.tup (intsD (r.rests b))) M
theorem ok_rests_at (G : Wd K mg) (F : FnT K "rests_at" "Run.rests_at" s_Run_rests_at (He.ma K (He.ga K "Run") "rests_at")) (F1 : FnR Pg w K mg base CX0 3 (He.ma K (He.ga K "Run") "rest_of") (spD K T (pRest K))) (F2 : FnR Pg w K mg base CX0 2 (He.ga K "need_beat") (spD K T pBeatN)) :
    FnR Pg w K mg base CX0 4 (He.ma K (He.ga K "Run") "rests_at") (spD K T (pRests K)) := by
  obtain ⟨fd, F⟩ := F
  refine fd_ok F sc_Run_rests_at (F.bindsN fun _ _ _ _ _ _ us hl => match us, hl with | [_, _], _ => rfl) (fun ds M R h => by obtain ⟨_, _, rfl, _⟩ := h; rfl) fun cdv A outer s H E ds M R hr h => ?_
  obtain ⟨r, b, rfl, ok, hb1, hb2, h⟩ := h
  have nd := sc_Run_rests_at.nd
  have hn6 := ok.n6
  refine hs_expr (dx_call F2 (hr.mono (by decide)) G.g_need_beat G.k_need_beat (ax_cons (v 1) ax_nil) ⟨b, rfl, rfl, rfl⟩) ?_
  refine hs_ret (dx_tuple G.n_tuple (lcI (n := r.n) (j := 2) (fun k => r.rest (k + 1) b) rfl nd (ixR2 G.n_range dx_int (dx_add (dx_fld (G.cC r.late).cl (G.aS r.late) (dx_fld G.c_Run.cl G.a_Run_chain (v 0) rfl) rfl) dx_int) (by omega) (by decide) (by decide) (by omega)) (blkOk_by (N := N_Run_rests_at) (sc := defScope s_Run_rests_at) (by decide +kernel)) (fun _ _ _ _ _ => pg_name nd rfl (.inl rfl)) (by omega)
    fun _ _ _ _ _ k hk => dx_meth F1 (hr.mono (by decide)) G.c_Run.cl G.m_Run_rest_of (v 0) (.inl ⟨_, rfl, rfl⟩) (ax_cons (v 2) (ax_cons (v 1) ax_nil)) ⟨r, k, b, ?_, ok, hk, hb1, hb2, rfl, rfl⟩) rfl) h
  rw [show (1 : Int) + (k : Nat) = ((k + 1 : Nat) : Int) by omega]; rfl
abbrev pCarr (K : PySem.W.Frag) : PtD := fun ds M R => ∃ r b, ds = [runD K r, .int b] ∧ r.Ok ∧ -(2 ^ 49) ≤ b ∧ b ≤ 2 ^ 49 ∧ R (.tup (intsD (r.carries b))) M
theorem ok_carries_at (G : Wd K mg) (F : FnT K "carries_at" "Run.carries_at" s_Run_carries_at (He.ma K (He.ga K "Run") "carries_at")) (F1 : FnR Pg w K mg base CX0 4 (He.ma K (He.ga K "Run") "rests_at") (spD K T (pRests K)))
    (F2 : FnR Pg w K mg base CX0 2 (He.ga K "beat_of") (spD K T (pBeat K))) (F4 : FnR Pg w K mg base CX0 2 (He.ma K (He.ga K "Cycle") "__getitem__") (spD K T (pCyAt K))) : FnR Pg w K mg base CX0 5 (He.ma K (He.ga K "Run") "carries_at") (spD K T (pCarr K)) := by
  obtain ⟨fd, F⟩ := F
  refine fd_ok F sc_Run_carries_at (F.bindsN fun _ _ _ _ _ _ us hl => match us, hl with | [_, _], _ => rfl) (fun ds M R h => by obtain ⟨_, _, rfl, _⟩ := h; rfl) fun cdv A outer s H E ds M R hr h => ?_
  obtain ⟨r, b, rfl, ok, hb1, hb2, h⟩ := h
  refine hs_ret (dx_ix (dx_call F2 (hr.mono (by decide)) G.g_beat_of G.k_beat_of (ax_cons (dx_fld G.c_Run.cl G.a_Run_chain (v 0) rfl) (ax_cons (dx_meth F1 (hr.mono (by decide)) G.c_Run.cl G.m_Run_rests_at (v 0) (.inl ⟨_, rfl, rfl⟩) (ax_cons (dx_sub (v 1) dx_int) ax_nil) ⟨r, _, rfl, ok, by omega, by omega, rfl, rfl⟩)
    (ax_cons (dx_ixO G.f_Cycle___getitem__ G.fn_Cycle___getitem__ G.fi_Cycle F4 (hr.mono (by decide)) (dx_fld G.c_Run.cl G.a_Run_lead (v 0) rfl) (dx_sub (v 1) dx_int) (.inl ⟨_, rfl⟩) ⟨r.lead, _, rfl, ok.l0, rfl, rfl⟩) ax_nil))) ⟨r.late, r.m, r.n, _, _, rfl, ?_, rfl, rfl⟩) dx_int rfl rfl) h
  have := ok.n6
  simp [Rn.rests]; omega
abbrev pAmount (K : PySem.W.Frag) : PtD := fun ds M R => ∃ ns, ds = [cyD K ns] ∧ R (.int ns.sum) M
abbrev pInputs (K : PySem.W.Frag) : PtD := fun ds M R => ∃ r b, ds = [runD K r, .int b] ∧ r.Ok ∧ -(2 ^ 50) ≤ b ∧ b ≤ 2 ^ 50 ∧ R (.int (r.inputs b)) M
theorem ok_inputs_to (G : Wd K mg) (F : FnT K "inputs_to" "Run.inputs_to" s_Run_inputs_to (He.ma K (He.ga K "Run") "inputs_to")) (F1 : FnR Pg w K mg base CX0 1 (prG K (He.ga K "Cycle") "amount") (spD K T (pAmount K))) (F2 : FnR Pg w K mg base CX0 1 (He.ma K (He.ga K "Cycle") "__len__") (spD K T (pCyLen K))) :
    FnR Pg w K mg base CX0 3 (He.ma K (He.ga K "Run") "inputs_to") (spD K T (pInputs K)) := by
  obtain ⟨fd, F⟩ := F
  refine fd_ok F sc_Run_inputs_to (F.bindsN fun _ _ _ _ _ _ us hl => match us, hl with | [_, _], _ => rfl) (fun ds M R h => by obtain ⟨_, _, rfl, _⟩ := h; rfl) fun cdv A outer s H E ds M R hr h => ?_
  obtain ⟨r, b, rfl, ok, hb1, hb2, h⟩ := h
  have nd := sc_Run_inputs_to.nd
  have hL := List.length_pos_iff.mpr ok.l0
  have hL9 := ok.l9
  have e1 := Int.emod_nonneg b (show (r.lead.length : Int) ≠ 0 by omega)
  have e2 := Int.emod_lt_of_pos b (show (0 : Int) < r.lead.length by omega)
  have hdv : -(2 ^ 60) ≤ b / r.lead.length ∧ b / r.lead.length ≤ 2 ^ 60 := ⟨Int.le_ediv_of_mul_le (by omega) (by omega), Int.ediv_le_of_le_mul (by omega) (by omega)⟩
  refine set_ 2 nd (dx_lenO G.n_len G.f_Cycle___len__ G.fn_Cycle___len__ F2 (hr.mono (by decide)) (dx_fld G.c_Run.cl G.a_Run_lead (v 0) rfl) (.inl ⟨_, rfl⟩) ⟨r.lead, rfl, rfl, rfl⟩ (by omega)) ?_
  refine hs_ret (dx_add (dx_mul (dx_fdiv (v 1) (v 2) ⟨by omega, by omega⟩) (dx_prop F1 (hr.mono (by decide)) G.c_Cycle.cl G.p_Cycle_amount (dx_fld G.c_Run.cl G.a_Run_lead (v 0) rfl) (.inl ⟨_, rfl⟩) ⟨r.lead, rfl, rfl, rfl⟩) (.inl ⟨by omega, by omega⟩)) (dx_sum rfl G.n_sum (ns := r.lead.take (b % r.lead.length).toNat) (DX.cast (dx_list G.n_list (dx_slT (dx_fld G.c_Cycle.cl G.a_Cycle_numbers (dx_fld G.c_Run.cl G.a_Run_lead (v 0) rfl) rfl) ox_none (ox_some (dx_mod (v 1) (v 2) (by omega)))) rfl) ?_ rfl))) h
  have : b % (r.lead.length : Int) = (((b % r.lead.length).toNat : Nat) : Int) := by omega
  generalize (b % (r.lead.length : Int)).toNat = t at this ⊢
  rw [this, cutD_take, intsD_take]
abbrev pPrompt (K : PySem.W.Frag) : PtD := fun ds M R => ∃ r, ds = [runD K r] ∧ r.Ok ∧ R (runD K r.prompted) M
theorem ok_prompted (G : Wd K mg) (F : FnT K "prompted" "Run.prompted" s_Run_prompted (He.ma K (He.ga K "Run") "prompted")) (F1 : FnR Pg w K mg base CX0 3 (He.ma K (He.ga K "Run") "rest_of") (spD K T (pRest K)))
    (F2 : FnR Pg w K mg base CX0 4 (He.ma K (chC K false) "__init__") (spD K T (pChain K false))) (F3 : FnR Pg w K mg base CX0 7 (He.ma K (He.ga K "Run") "__init__") (spD K T (pRun K))) : FnR Pg w K mg base CX0 9 (He.ma K (He.ga K "Run") "prompted") (spD K T (pPrompt K)) := by
  obtain ⟨fd, F⟩ := F
  refine fd_ok F sc_Run_prompted (F.bindsN fun _ _ _ _ _ _ us hl => match us, hl with | [_], _ => rfl) (fun ds M R h => by obtain ⟨_, rfl, _⟩ := h; rfl) fun cdv A outer s H E ds M R hr h => ?_
  obtain ⟨r, rfl, ok, h⟩ := h
  have nd := sc_Run_prompted.nd
  have hn6 := ok.n6
  have okp := ok.prompted
  obtain ⟨late, m, n, lead, starts⟩ := r
  replace hn6 : n ≤ 6 := hn6
  cases late with
  | false => exact hs_ifT (tx_val (dx_isi G.n_isinstance (dx_fld G.c_Run.cl G.a_Run_chain (v 0) rfl) (gr G.g_Prompt) (tyd_ins G.c_Prompt) (.own _) G.kit_Prompt_Prompt)) (hs_ret (v 0) h)
  | true =>
    refine hs_ifF (tx_val (dx_isi G.n_isinstance (dx_fld G.c_Run.cl G.a_Run_chain (v 0) rfl) (gr G.g_Prompt) (tyd_ins G.c_Late) (.own _) G.kit_Late_Prompt)) ?_
    refine hs_setLc (n := n) (j := 2) (i := 1) (fun _ => M) (fun k => .int (Rn.rest ⟨true, m, n, lead, starts⟩ (k + 1) k)) rfl nd rfl rfl (sw_true rfl rfl rfl (by decide +kernel)) (ixR2 G.n_range dx_int (dx_add (dx_fld (G.cC true).cl (G.aS true) (dx_fld G.c_Run.cl G.a_Run_chain (v 0) rfl) rfl) dx_int) (show ((n : Nat) : Int) + 1 - 1 = n by omega) (by decide) (by decide) (by omega)) rfl
      (blkOk_by (N := N_Run_prompted) (sc := defScope s_Run_prompted) (by decide +kernel)) (fun _ _ _ _ _ => pg_name nd rfl (.inl rfl)) rfl (by omega) (fun _ _ _ _ _ k hk => dx_meth F1 (hr.mono (by decide)) G.c_Run.cl G.m_Run_rest_of (v 0) (.inl ⟨_, rfl, rfl⟩) (ax_cons (v 2) (ax_cons (dx_sub (v 2) dx_int) ax_nil)) ⟨⟨true, m, n, lead, starts⟩, k, k, ?_, ok, hk, by omega, by omega, rfl, rfl⟩) ?_
    · rw [show (1 : Int) + (k : Nat) = ((k + 1 : Nat) : Int) by omega, show ((k + 1 : Nat) : Int) - 1 = (k : Nat) by omega]; rfl
    · refine hs_ret (RX.freeze (rx_makeS2 F3 (hr.mono (by decide)) G.mk_Run G.g_Run (ax_cons (RX.freeze (d := chD K false m n) (M1 := M) (rx_make F2 (hr.mono (by decide)) G.mk_Prompt G.g_Prompt (ax_cons (dx_fld (G.cC true).cl (G.aS true) (dx_fld G.c_Run.cl G.a_Run_chain (v 0) rfl) rfl) (ax_cons (dx_fld (G.cC true).cl (G.aM true) (dx_fld G.c_Run.cl G.a_Run_chain (v 0) rfl) rfl) ax_nil)) fun a ha => ⟨a, m, n, rfl, MM.set_same, ok.n1, ok.n6, ok.m2, ok.m9, rfl, a, _, rfl, ha, MM.set_set, rfl⟩))
        (ax_cons (dx_fld G.c_Run.cl G.a_Run_lead (v 0) rfl) (ax_star (v 1) rfl ax_nil))) fun a ha => run_make (r := Rn.prompted ⟨true, m, n, lead, starts⟩) okp (.inr rfl) ?_ a ha)) h
      rw [List.append_nil, intsD_map]; rfl
/-! standings -/
def stL (a b c d e f g : Dat) : List (Str × Dat) := [("own_rests", a), ("own_carried", b), ("cycle", c), ("gone", d), ("sum_given", e), ("words", f), ("ahead", g)]
abbrev pSt (K : PySem.W.Frag) : PtD := fun ds M R => ∃ q a b c, ds = [.ptr q, a, b, c] ∧ M q = some (.mi (He.ga K "Standing") []) ∧ R .non (M.set q (.mi (He.ga K "Standing") (stL a b c (.int 0) (.int 0) (.tup []) .non)))
theorem ok_standing (G : Wd K mg) (F : FnT K "__init__" "Standing.__init__" s_Standing___init__ (He.ma K (He.ga K "Standing") "__init__")) : FnR Pg w K mg base CX0 1 (He.ma K (He.ga K "Standing") "__init__") (spD K T (pSt K)) := by
  obtain ⟨fd, F⟩ := F
  refine fd_ok F sc_Standing___init__ (F.bindsN fun _ _ _ _ _ _ us hl => match us, hl with | [_, _, _, _], _ => rfl) (fun ds M R h => by obtain ⟨_, _, _, _, rfl, _⟩ := h; rfl) fun cdv A outer s H E ds M R hr h => ?_
  obtain ⟨q, a, b, c, rfl, hq, h⟩ := h
  have cl := G.c_Standing.cl
  refine hs_fld cl G.a_Standing_own_rests (v 1) (v 0) hq (by decide) ?_
  refine hs_fld cl G.a_Standing_own_carried (v 2) (v 0) MM.set_same (show 1 < 900 by decide) ?_
  refine hs_fld cl G.a_Standing_cycle (v 3) (v 0) MM.set_same (show 2 < 900 by decide) ?_
  refine hs_fld cl G.a_Standing_gone dx_int (v 0) MM.set_same (show 3 < 900 by decide) ?_
  refine hs_fld cl G.a_Standing_sum_given dx_int (v 0) MM.set_same (show 4 < 900 by decide) ?_
  refine hs_fld cl G.a_Standing_words (dx_tup ax_nil (by simp)) (v 0) MM.set_same (show 5 < 900 by decide) ?_
  refine hs_fld cl G.a_Standing_ahead dx_non (v 0) MM.set_same (show 6 < 900 by decide) (hs_nil ?_)
  rw [MM.set_set, MM.set_set, MM.set_set, MM.set_set, MM.set_set, MM.set_set]
  exact h
def stD (K : PySem.W.Frag) (a b c d e f g : Dat) : Dat := .ins (He.ga K "Standing") (stL a b c d e f g)
/-- a new standing, not yet frozen -/
def newSt (K : PySem.W.Frag) (M : MM) (R : Dat → MM → Prop) (a b c d e f g : Dat) : Prop := ∀ p, M p = none → R (.ptr p) (M.set p (.mi (He.ga K "Standing") (stL a b c d e f g)))
abbrev pChanged (K : PySem.W.Frag) : PtD := fun ds M R => ∃ a b c d e f g a' b' c', ds = [stD K a b c d e f g, a', b', c'] ∧ newSt K M R a' b' c' d e f g
theorem ok_changed (G : Wd K mg) (F : FnT K "changed" "Standing.changed" s_Standing_changed (He.ma K (He.ga K "Standing") "changed")) (F1 : FnR Pg w K mg base CX0 1 (He.ma K (He.ga K "Standing") "__init__") (spD K T (pSt K))) : FnR Pg w K mg base CX0 3 (He.ma K (He.ga K "Standing") "changed") (spD K T (pChanged K)) := by
  obtain ⟨fd, F⟩ := F
  refine fd_ok F sc_Standing_changed (F.bindsN fun _ _ _ _ _ _ us hl => match us, hl with | [_, _, _, _], _ => rfl) (fun ds M R h => by obtain ⟨_, _, _, _, _, _, _, _, _, _, rfl, _⟩ := h; rfl) fun cdv A outer s H E ds M R hr h => ?_
  obtain ⟨a, b, c, d, e, f, g, a', b', c', rfl, h⟩ := h
  have cl := G.c_Standing.cl
  have nd := sc_Standing_changed.nd
  refine hs_setR 4 nd rfl (.inl rfl) (Rx := fun dd m => ∃ p, M p = none ∧ dd = .ptr p ∧ m = M.set p (.mi (He.ga K "Standing") (stL a' b' c' (.int 0) (.int 0) (.tup []) .non))) (rx_make F1 (hr.mono (by decide)) G.mk_Standing G.g_Standing (ax_cons (v 1) (ax_cons (v 2) (ax_cons (v 3) ax_nil))) fun x hx => ⟨x, a', b', c', rfl, MM.set_same, rfl, x, hx, rfl, MM.set_set⟩) ?_
  rintro dd m ⟨p, hp, rfl, rfl⟩
  refine hs_asg (tup2 (dx_fld cl G.a_Standing_gone (v 0) rfl) (dx_fld cl G.a_Standing_sum_given (v 0) rfl)) (gx_tup rfl (gxs_cons (gx_fld cl G.a_Standing_gone (v 4) MM.set_same (show 7 < 900 by decide)) (gxs_cons (gx_fld cl G.a_Standing_sum_given (v 4) MM.set_same (show 7 < 900 by decide)) gxs_nil))) ?_
  refine hs_asg (tup2 (dx_fld cl G.a_Standing_words (v 0) rfl) (dx_fld cl G.a_Standing_ahead (v 0) rfl)) (gx_tup rfl (gxs_cons (gx_fld cl G.a_Standing_words (v 4) MM.set_same (show 7 < 900 by decide)) (gxs_cons (gx_fld cl G.a_Standing_ahead (v 4) MM.set_same (show 7 < 900 by decide)) gxs_nil))) ?_
  refine hs_ret (v 4) ?_
  rw [MM.set_set, MM.set_set, MM.set_set, MM.set_set]
  exact h p hp
abbrev pCounted (K : PySem.W.Frag) : PtD := fun ds M R => ∃ a b c d e f g i j, ds = [stD K a b c (.int d) (.int e) f g, .int i, .int j] ∧ newSt K M R a b c (.int (d + i)) (.int (e + j)) f g
theorem ok_counted (G : Wd K mg) (F : FnT K "counted" "Standing.counted" s_Standing_counted (He.ma K (He.ga K "Standing") "counted")) (F1 : FnR Pg w K mg base CX0 3 (He.ma K (He.ga K "Standing") "changed") (spD K T (pChanged K))) : FnR Pg w K mg base CX0 4 (He.ma K (He.ga K "Standing") "counted") (spD K T (pCounted K)) := by
  obtain ⟨fd, F⟩ := F
  refine fd_ok F sc_Standing_counted (F.bindsN fun _ _ _ _ _ _ us hl => match us, hl with | [_, _, _], _ => rfl) (fun ds M R h => by obtain ⟨_, _, _, _, _, _, _, _, _, rfl, _⟩ := h; rfl) fun cdv A outer s H E ds M R hr h => ?_
  obtain ⟨a, b, c, d, e, f, g, i, j, rfl, h⟩ := h
  have cl := G.c_Standing.cl
  have nd := sc_Standing_counted.nd
  refine hs_setR 3 nd rfl (.inl rfl) (Rx := fun dd m => ∃ p, M p = none ∧ dd = .ptr p ∧ m = M.set p (.mi (He.ga K "Standing") (stL a b c (.int d) (.int e) f g))) (rx_meth F1 (hr.mono (by decide)) cl G.m_Standing_changed (v 0) (.inl ⟨_, rfl, rfl⟩) (ax_cons (dx_fld cl G.a_Standing_own_rests (v 0) rfl) (ax_cons (dx_fld cl G.a_Standing_own_carried (v 0) rfl) (ax_cons (dx_fld cl G.a_Standing_cycle (v 0) rfl) ax_nil)))
    ⟨a, b, c, .int d, .int e, f, g, a, b, c, rfl, fun p hp => ⟨p, hp, rfl, rfl⟩⟩) ?_
  rintro dd m ⟨p, hp, rfl, rfl⟩
  refine hs_asg (tup2 (dx_add (dx_fld cl G.a_Standing_gone (v 0) rfl) (v 1)) (dx_add (dx_fld cl G.a_Standing_sum_given (v 0) rfl) (v 2))) (gx_tup rfl (gxs_cons (gx_fld cl G.a_Standing_gone (v 3) MM.set_same (show 7 < 900 by decide)) (gxs_cons (gx_fld cl G.a_Standing_sum_given (v 3) MM.set_same (show 7 < 900 by decide)) gxs_nil))) ?_
  refine hs_ret (v 3) ?_
  rw [MM.set_set, MM.set_set]
  exact h p hp
abbrev pBehind (K : PySem.W.Frag) : PtD := fun ds M R => ∃ a b c d e f g ws x a2 b2 c2 d2 e2 g2, ds = [stD K a b c d e f g, stD K a2 b2 c2 d2 e2 (.tup ws) g2, x] ∧ ws.length ≤ 900000 ∧ newSt K M R a b c d e (.tup (ws ++ [x])) (stD K a2 b2 c2 d2 e2 (.tup ws) g2)
theorem ok_behind (G : Wd K mg) (F : FnT K "behind" "Standing.behind" s_Standing_behind (He.ma K (He.ga K "Standing") "behind")) (F1 : FnR Pg w K mg base CX0 3 (He.ma K (He.ga K "Standing") "changed") (spD K T (pChanged K))) : FnR Pg w K mg base CX0 4 (He.ma K (He.ga K "Standing") "behind") (spD K T (pBehind K)) := by
  obtain ⟨fd, F⟩ := F
  refine fd_ok F sc_Standing_behind (F.bindsN fun _ _ _ _ _ _ us hl => match us, hl with | [_, _, _], _ => rfl) (fun ds M R h => by obtain ⟨_, _, _, _, _, _, _, _, _, _, _, _, _, _, _, rfl, _⟩ := h; rfl) fun cdv A outer s H E ds M R hr h => ?_
  obtain ⟨a, b, c, d, e, f, g, ws, x, a2, b2, c2, d2, e2, g2, rfl, hz, h⟩ := h
  have cl := G.c_Standing.cl
  have nd := sc_Standing_behind.nd
  refine hs_setR 3 nd rfl (.inl rfl) (Rx := fun dd m => ∃ p, M p = none ∧ dd = .ptr p ∧ m = M.set p (.mi (He.ga K "Standing") (stL a b c d e f g))) (rx_meth F1 (hr.mono (by decide)) cl G.m_Standing_changed (v 0) (.inl ⟨_, rfl, rfl⟩) (ax_cons (dx_fld cl G.a_Standing_own_rests (v 0) rfl) (ax_cons (dx_fld cl G.a_Standing_own_carried (v 0) rfl) (ax_cons (dx_fld cl G.a_Standing_cycle (v 0) rfl) ax_nil)))
    ⟨a, b, c, d, e, f, g, a, b, c, rfl, fun p hp => ⟨p, hp, rfl, rfl⟩⟩) ?_
  rintro dd m ⟨p, hp, rfl, rfl⟩
  refine hs_asg (tup2 (dx_tup (ax_star (dx_fld cl G.a_Standing_words (v 1) rfl) rfl (ax_cons (v 2) ax_nil)) ?_) (v 1)) (gx_tup rfl (gxs_cons (gx_fld cl G.a_Standing_words (v 3) MM.set_same (show 7 < 900 by decide)) (gxs_cons (gx_fld cl G.a_Standing_ahead (v 3) MM.set_same (show 7 < 900 by decide)) gxs_nil))) ?_
  · simp; omega
  refine hs_ret (v 3) ?_
  rw [MM.set_set, MM.set_set]
  exact h p hp
end
end Tx
end
section
set_option autoImplicit false
namespace Tx
open PySem PySem.Spec PyProof.Rows L2 Da Mi StX
section
variable {Pg : Program} {w : World} {K : PySem.W.Frag} {mg : Str → Option Value} {base : Heap} {T : TL}
abbrev pPut : PtD := fun ds M R => ∃ n rws, ds = [.tup (rowsD rws)] ∧ n ≤ 6 ∧ Carr n n rws ∧ R (.int (ptg rws)) M
theorem ok_put_together (G : Wd K mg) (F : FnT K "put_together" "put_together" s_put_together (He.ga K "put_together")) (F1 : FnR Pg w K mg base CX0 2 (He.ga K "weighed") (spD K T pWgh)) : FnR Pg w K mg base CX0 3 (He.ga K "put_together") (spD K T pPut) := by
  obtain ⟨fd, F⟩ := F
  refine fd_ok F sc_put_together (F.bindsN fun _ _ _ _ _ _ us hl => match us, hl with | [_], _ => rfl) (fun ds M R h => by obtain ⟨_, _, rfl, _⟩ := h; rfl) fun cdv A outer s H E ds M R hr h => ?_
  obtain ⟨n, rws, rfl, hn, hc, h⟩ := h
  have nd := sc_put_together.nd
  have el : (rowsD rws).length = n := by rw [rowsD, List.length_map, hc.1]
  refine set_ 1 nd dx_int (hs_for (ixR (n := n) G.n_range (DX.cast (dx_len G.n_len (v 0) rfl) (by rw [el]) rfl) (by omega)) (fun i Γ' M' => M' = M ∧ ∃ a, Γ' = [some (.tup (rowsD rws)), some (.int ((List.range i).map fun s => wgh ((List.range (s + 1)).map fun i => (rws.getD (s - i) []).getD s 0)).sum), a, none]) ⟨rfl, _, rfl⟩ ?_ ?_ rfl PassesOwn.never)
  · rintro i Γ' M' hi ⟨rfl, a, rfl⟩
    refine ⟨_, _, gn 2 nd, hs_augA 1 nd rfl (.inl rfl) rfl (dx_call F1 (hr.mono (by decide)) G.g_weighed G.k_weighed (ax_cons (lcI (n := i + 1) (j := 3) (fun k => (rws.getD (i - k) []).getD i 0) rfl nd (ixDn G.n_range (v 2) (dx_neg dx_int) (dx_neg dx_int) (by omega) (by omega) (by omega) (by omega)) (blkOk_by (N := N_put_together) (sc := defScope s_put_together) (by decide +kernel)) (fun _ _ _ _ _ => pg_name nd rfl (.inl rfl)) (by omega)
      fun _ _ _ _ _ k hk => dx_ix (dx_ix (d := .tup (intsD (rws.getD (i - k) []))) (v 0) (v 3) rfl ?_) (v 2) rfl ?_) ax_nil) ⟨_, rfl, by simp, by simp; omega, fun x hx => ?_, rfl, rfl⟩) (hs_nil ⟨rfl, some (.int i), ?_⟩)⟩
    · rw [← atI_rows (rws := rws) (i := i - k) (by rw [hc.1]; omega)]; congr 1; omega
    · have := hc.get (i := i - k) (j := i) (by omega) hi
      exact atI_ints (atI_pos (by rw [this.1]; exact hi))
    · obtain ⟨k, hk, rfl⟩ := List.mem_map.mp hx
      have := (hc.get (i := i - k) (j := i) (by omega) hi).2
      omega
    · rw [sum_range_succ]; rfl
  · rintro Γ' M' ⟨rfl, a, rfl⟩
    refine hs_ret (v 1) ?_
    rw [ptg, hc.1] at h
    exact h
abbrev pPutA : PtD := fun ds M R => ∃ n rws, ds = [.tup (rowsD rws)] ∧ n ≤ 5 ∧ Carr (n + 1) n rws ∧ R (.int (pta rws)) M
theorem ok_put_ahead (G : Wd K mg) (F : FnT K "put_together_ahead" "put_together_ahead" s_put_together_ahead (He.ga K "put_together_ahead")) (F1 : FnR Pg w K mg base CX0 2 (He.ga K "weighed") (spD K T pWgh)) : FnR Pg w K mg base CX0 3 (He.ga K "put_together_ahead") (spD K T pPutA) := by
  obtain ⟨fd, F⟩ := F
  refine fd_ok F sc_put_together_ahead (F.bindsN fun _ _ _ _ _ _ us hl => match us, hl with | [_], _ => rfl) (fun ds M R h => by obtain ⟨_, _, rfl, _⟩ := h; rfl) fun cdv A outer s H E ds M R hr h => ?_
  obtain ⟨n, rws, rfl, hn, hc, h⟩ := h
  have nd := sc_put_together_ahead.nd
  have el : (rowsD rws).length = n := by rw [rowsD, List.length_map, hc.1]
  refine set_ 1 nd dx_int (hs_for (ixR (n := n) G.n_range (DX.cast (dx_len G.n_len (v 0) rfl) (by rw [el]) rfl) (by omega)) (fun i Γ' M' => M' = M ∧ ∃ a, Γ' = [some (.tup (rowsD rws)), some (.int ((List.range i).map fun a => wgh ((List.range (a + 1)).map fun i => (rws.getD (a - i) []).getD (a + 1) 0)).sum), a, none]) ⟨rfl, _, rfl⟩ ?_ ?_ rfl PassesOwn.never)
  · rintro i Γ' M' hi ⟨rfl, a, rfl⟩
    refine ⟨_, _, gn 2 nd, hs_augA 1 nd rfl (.inl rfl) rfl (dx_call F1 (hr.mono (by decide)) G.g_weighed G.k_weighed (ax_cons (lcI (n := i + 1) (j := 3) (fun k => (rws.getD (i - k) []).getD (i + 1) 0) rfl nd (ixDn G.n_range (v 2) (dx_neg dx_int) (dx_neg dx_int) (by omega) (by omega) (by omega) (by omega)) (blkOk_by (N := N_put_together_ahead) (sc := defScope s_put_together_ahead) (by decide +kernel)) (fun _ _ _ _ _ => pg_name nd rfl (.inl rfl)) (by omega)
      fun _ _ _ _ _ k hk => dx_ix (dx_ix (d := .tup (intsD (rws.getD (i - k) []))) (v 0) (v 3) rfl ?_) (dx_add (v 2) dx_int) rfl ?_) ax_nil) ⟨_, rfl, by simp, by simp; omega, fun x hx => ?_, rfl, rfl⟩) (hs_nil ⟨rfl, some (.int i), ?_⟩)⟩
    · rw [← atI_rows (rws := rws) (i := i - k) (by rw [hc.1]; omega)]; congr 1; omega
    · have := hc.get (i := i - k) (j := i + 1) (by omega) (by omega)
      exact atI_ints (atI_pos (i := i + 1) (by rw [this.1]; omega))
    · obtain ⟨k, hk, rfl⟩ := List.mem_map.mp hx
      have := (hc.get (i := i - k) (j := i + 1) (by omega) (by omega)).2
      omega
    · rw [sum_range_succ]; rfl
  · rintro Γ' M' ⟨rfl, a, rfl⟩
    refine hs_ret (v 1) ?_
    rw [pta, hc.1] at h
    exact h
end
end Tx
end
section
set_option autoImplicit false
namespace Tx
open PySem PySem.Spec PyProof.Rows L2 Da Mi StX
/-- a bench's words -/
structure Bs where
  rests : List Int
  carried : List (List Int)
  cyc : List Int
  gone : Int
  given : Int
  words : List Str
  ahead : Dat
def Bs.dat (K : PySem.W.Frag) (s : Bs) : Dat := stD K (.tup (intsD s.rests)) (.tup (rowsD s.carried)) (cyD K s.cyc) (.int s.gone) (.int s.given) (.tup (strsD s.words)) s.ahead
def benF (K : PySem.W.Frag) (m : Int) (n : Nat) (s : Bs) : List (Str × Dat) := [("chain", chD K false m n), ("standing", s.dat K)]
def ben (K : PySem.W.Frag) (m : Int) (n : Nat) (s : Bs) : MO := .mi (He.ga K "Bench") (benF K m n s)
structure Bs.Ok (m : Int) (n : Nat) (s : Bs) : Prop where
  m2 : 2 ≤ m
  m9 : m ≤ 1000
  n1 : 1 ≤ n
  n6 : n ≤ 6
  r0 : s.rests.length = n
  ri : In m s.rests
  ca : Carr n (n - 1) s.carried
  c0 : s.cyc ≠ []
  c9 : s.cyc.length ≤ 60
  ci : In m s.cyc
  wl : s.words.length ≤ 800000
def bench0 (r : Rn) : Bs := ⟨r.prompted.starts, (List.range (r.n - 1)).map fun (a : Nat) => r.prompted.carries (0 - (a : Int)), r.prompted.lead, 0, 0, [], .non⟩
theorem prm_m (r : Rn) : r.prompted.m = r.m ∧ r.prompted.n = r.n ∧ r.prompted.lead = r.lead ∧ r.prompted.late = false := by
  unfold Rn.prompted
  split
  · exact ⟨rfl, rfl, rfl, rfl⟩
  · rename_i h; exact ⟨rfl, rfl, rfl, by simpa using h⟩
section
variable {Pg : Program} {w : World} {K : PySem.W.Frag} {mg : Str → Option Value} {base : Heap} {T : TL}
abbrev pBench (K : PySem.W.Frag) : PtD := fun ds M R => ∃ q r, ds = [.ptr q, runD K r] ∧ M q = some (.mi (He.ga K "Bench") []) ∧ r.Ok ∧ R .non (M.set q (ben K r.m r.n (bench0 r)))
theorem ok_bench (G : Wd K mg) (F : FnT K "__init__" "Bench.__init__" s_Bench___init__ (He.ma K (He.ga K "Bench") "__init__")) (F1 : FnR Pg w K mg base CX0 9 (He.ma K (He.ga K "Run") "prompted") (spD K T (pPrompt K))) (F2 : FnR Pg w K mg base CX0 5 (He.ma K (He.ga K "Run") "carries_at") (spD K T (pCarr K)))
    (F3 : FnR Pg w K mg base CX0 1 (He.ma K (He.ga K "Standing") "__init__") (spD K T (pSt K))) : FnR Pg w K mg base CX0 10 (He.ma K (He.ga K "Bench") "__init__") (spD K T (pBench K)) := by
  obtain ⟨fd, F⟩ := F
  refine fd_ok F sc_Bench___init__ (F.bindsN fun _ _ _ _ _ _ us hl => match us, hl with | [_, _], _ => rfl) (fun ds M R h => by obtain ⟨_, _, rfl, _⟩ := h; rfl) fun cdv A outer s H E ds M R hr h => ?_
  obtain ⟨q, r, rfl, hq, ok, h⟩ := h
  have nd := sc_Bench___init__.nd
  have okp := ok.prompted
  obtain ⟨e1, e2, e3, e4⟩ := prm_m r
  have hn6 := ok.n6
  have hn1 := ok.n1
  have cl := G.c_Bench.cl
  have ech : chD K r.prompted.late r.prompted.m r.prompted.n = chD K false r.m r.n := by rw [e1, e2, e4]
  refine hs_ifF (tnot (b := true) (tx_val (dx_isi G.n_isinstance (v 1) (gr G.g_Run) (tyd_ins G.c_Run) (.own _) G.kit_Run_Run))) ?_
  refine set_ 2 nd (dx_meth0 F1 (hr.mono (by decide)) G.c_Run.cl G.m_Run_prompted (v 1) (.inl ⟨_, rfl, rfl⟩) ⟨r, rfl, ok, rfl, rfl⟩) ?_
  refine hs_fld cl G.a_Bench_chain (DX.cast (dx_fld G.c_Run.cl G.a_Run_chain (v 2) rfl) ech rfl) (v 0) hq (by decide) ?_
  refine set_ 3 nd (DX.cast (dx_tuple G.n_tuple (lcD (n := r.n - 1) (j := 4) (fun (a : Nat) => .tup (intsD (r.prompted.carries (0 - (a : Int))))) rfl nd (ixR G.n_range (DX.cast (dx_sub (dx_fld (G.cC false).cl (G.aS false) (dx_fldM cl G.a_Bench_chain (v 0) MM.set_same rfl) rfl) dx_int) (congrArg Dat.int (by omega)) rfl) (by omega)) (blkOk_by (N := N_Bench___init__) (sc := defScope s_Bench___init__) (by decide +kernel)) (fun _ _ _ _ _ => pg_name nd rfl (.inl rfl)) (by omega)
    fun _ _ _ _ _ a ha => dx_meth F2 (hr.mono (by decide)) G.c_Run.cl G.m_Run_carries_at (v 2) (.inl ⟨_, rfl, rfl⟩) (ax_cons (dx_sub dx_int (v 4)) ax_nil) ⟨r.prompted, _, rfl, okp, by omega, by omega, rfl, rfl⟩) rfl) (d' := .tup (rowsD (bench0 r).carried)) ?_ rfl) ?_
  · simp [bench0, rowsD]
  refine hs_fld cl G.a_Bench_standing (d := (bench0 r).dat K) (RX.freeze (rx_make F3 (hr.mono (by decide)) G.mk_Standing G.g_Standing (ax_cons (dx_fld G.c_Run.cl G.a_Run_starts (v 2) rfl) (ax_cons (v 3) (ax_cons (dx_fld G.c_Run.cl G.a_Run_lead (v 2) rfl) ax_nil))) fun x hx => ⟨x, _, _, _, rfl, MM.set_same, rfl, x, _, rfl, hx, MM.set_set, rfl⟩)) (v 0) MM.set_same (show 1 < 900 by decide) (hs_nil ?_)
  rw [MM.set_set]
  exact h
/-- a getter of the standing -/
abbrev pGet (K : PySem.W.Frag) (g : Bs → Dat) : PtD := fun ds M R => ∃ q m n s, ds = [.ptr q] ∧ M q = some (ben K m n s) ∧ R (g s) M
theorem ok_now (G : Wd K mg) (F : FnT K "now" "Bench.now" s_Bench_now (prG K (He.ga K "Bench") "now")) : FnR Pg w K mg base CX0 1 (prG K (He.ga K "Bench") "now") (spD K T (pGet K fun s => .int s.gone)) := by
  obtain ⟨fd, F⟩ := F
  refine fd_ok F sc_Bench_now (F.bindsN fun _ _ _ _ _ _ us hl => match us, hl with | [_], _ => rfl) (fun ds M R h => by obtain ⟨_, _, _, _, rfl, _⟩ := h; rfl) fun cdv A outer s H E ds M R hr h => ?_
  obtain ⟨q, m, n, s, rfl, hq, h⟩ := h
  exact hs_ret (dx_fld G.c_Standing.cl G.a_Standing_gone (dx_fldM G.c_Bench.cl G.a_Bench_standing (v 0) hq rfl) rfl) h
theorem ok_given (G : Wd K mg) (F : FnT K "given" "Bench.given" s_Bench_given (prG K (He.ga K "Bench") "given")) : FnR Pg w K mg base CX0 1 (prG K (He.ga K "Bench") "given") (spD K T (pGet K fun s => .int s.given)) := by
  obtain ⟨fd, F⟩ := F
  refine fd_ok F sc_Bench_given (F.bindsN fun _ _ _ _ _ _ us hl => match us, hl with | [_], _ => rfl) (fun ds M R h => by obtain ⟨_, _, _, _, rfl, _⟩ := h; rfl) fun cdv A outer s H E ds M R hr h => ?_
  obtain ⟨q, m, n, s, rfl, hq, h⟩ := h
  exact hs_ret (dx_fld G.c_Standing.cl G.a_Standing_sum_given (dx_fldM G.c_Bench.cl G.a_Bench_standing (v 0) hq rfl) rfl) h
theorem ok_rests (G : Wd K mg) (F : FnT K "rests" "Bench.rests" s_Bench_rests (prG K (He.ga K "Bench") "rests")) : FnR Pg w K mg base CX0 1 (prG K (He.ga K "Bench") "rests") (spD K T (pGet K fun s => .tup (intsD s.rests))) := by
  obtain ⟨fd, F⟩ := F
  refine fd_ok F sc_Bench_rests (F.bindsN fun _ _ _ _ _ _ us hl => match us, hl with | [_], _ => rfl) (fun ds M R h => by obtain ⟨_, _, _, _, rfl, _⟩ := h; rfl) fun cdv A outer s H E ds M R hr h => ?_
  obtain ⟨q, m, n, s, rfl, hq, h⟩ := h
  exact hs_ret (dx_fld G.c_Standing.cl G.a_Standing_own_rests (dx_fldM G.c_Bench.cl G.a_Bench_standing (v 0) hq rfl) rfl) h
theorem ok_carried (G : Wd K mg) (F : FnT K "carried" "Bench.carried" s_Bench_carried (prG K (He.ga K "Bench") "carried")) : FnR Pg w K mg base CX0 1 (prG K (He.ga K "Bench") "carried") (spD K T (pGet K fun s => .tup (rowsD s.carried))) := by
  obtain ⟨fd, F⟩ := F
  refine fd_ok F sc_Bench_carried (F.bindsN fun _ _ _ _ _ _ us hl => match us, hl with | [_], _ => rfl) (fun ds M R h => by obtain ⟨_, _, _, _, rfl, _⟩ := h; rfl) fun cdv A outer s H E ds M R hr h => ?_
  obtain ⟨q, m, n, s, rfl, hq, h⟩ := h
  exact hs_ret (dx_fld G.c_Standing.cl G.a_Standing_own_carried (dx_fldM G.c_Bench.cl G.a_Bench_standing (v 0) hq rfl) rfl) h
theorem ok_past (G : Wd K mg) (F : FnT K "past" "Bench.past" s_Bench_past (prG K (He.ga K "Bench") "past")) : FnR Pg w K mg base CX0 1 (prG K (He.ga K "Bench") "past") (spD K T (pGet K fun s => .tup (strsD s.words))) := by
  obtain ⟨fd, F⟩ := F
  refine fd_ok F sc_Bench_past (F.bindsN fun _ _ _ _ _ _ us hl => match us, hl with | [_], _ => rfl) (fun ds M R h => by obtain ⟨_, _, _, _, rfl, _⟩ := h; rfl) fun cdv A outer s H E ds M R hr h => ?_
  obtain ⟨q, m, n, s, rfl, hq, h⟩ := h
  exact hs_ret (dx_fld G.c_Standing.cl G.a_Standing_words (dx_fldM G.c_Bench.cl G.a_Bench_standing (v 0) hq rfl) rfl) h
theorem ok_lead_now (G : Wd K mg) (F : FnT K "lead_now" "Bench.lead_now" s_Bench_lead_now (prG K (He.ga K "Bench") "lead_now")) : FnR Pg w K mg base CX0 1 (prG K (He.ga K "Bench") "lead_now") (spD K T (pGet K fun s => cyD K s.cyc)) := by
  obtain ⟨fd, F⟩ := F
  refine fd_ok F sc_Bench_lead_now (F.bindsN fun _ _ _ _ _ _ us hl => match us, hl with | [_], _ => rfl) (fun ds M R h => by obtain ⟨_, _, _, _, rfl, _⟩ := h; rfl) fun cdv A outer s H E ds M R hr h => ?_
  obtain ⟨q, m, n, s, rfl, hq, h⟩ := h
  exact hs_ret (dx_fld G.c_Standing.cl G.a_Standing_cycle (dx_fldM G.c_Bench.cl G.a_Bench_standing (v 0) hq rfl) rfl) h
theorem ok_benlen (G : Wd K mg) (F : FnT K "__len__" "Bench.__len__" s_Bench___len__ (He.ma K (He.ga K "Bench") "__len__")) : FnR Pg w K mg base CX0 1 (He.ma K (He.ga K "Bench") "__len__") (spD K T (pGet K fun s => .int (s.words.length : Nat))) := by
  obtain ⟨fd, F⟩ := F
  refine fd_ok F sc_Bench___len__ (F.bindsN fun _ _ _ _ _ _ us hl => match us, hl with | [_], _ => rfl) (fun ds M R h => by obtain ⟨_, _, _, _, rfl, _⟩ := h; rfl) fun cdv A outer s H E ds M R hr h => ?_
  obtain ⟨q, m, n, s, rfl, hq, h⟩ := h
  refine hs_ret (dx_len G.n_len (dx_fld G.c_Standing.cl G.a_Standing_words (dx_fldM G.c_Bench.cl G.a_Bench_standing (v 0) hq rfl) rfl) rfl) ?_
  rw [strsD, List.length_map]; exact h
abbrev pRunB (K : PySem.W.Frag) : PtD := fun ds M R => ∃ q m n s, ds = [.ptr q] ∧ M q = some (ben K m n s) ∧ s.Ok m n ∧ R (runD K ⟨false, m, n, s.cyc, s.rests⟩) M
theorem Bs.Ok.run {m : Int} {n : Nat} {s : Bs} (h : s.Ok m n) : Rn.Ok ⟨false, m, n, s.cyc, s.rests⟩ := ⟨h.m2, h.m9, h.n1, h.n6, h.c0, h.c9, h.ci, h.r0, h.ri⟩
theorem ok_benrun (G : Wd K mg) (F : FnT K "run" "Bench.run" s_Bench_run (He.ma K (He.ga K "Bench") "run")) (F3 : FnR Pg w K mg base CX0 7 (He.ma K (He.ga K "Run") "__init__") (spD K T (pRun K))) : FnR Pg w K mg base CX0 9 (He.ma K (He.ga K "Bench") "run") (spD K T (pRunB K)) := by
  obtain ⟨fd, F⟩ := F
  refine fd_ok F sc_Bench_run (F.bindsN fun _ _ _ _ _ _ us hl => match us, hl with | [_], _ => rfl) (fun ds M R h => by obtain ⟨_, _, _, _, rfl, _⟩ := h; rfl) fun cdv A outer s H E ds M R hr h => ?_
  obtain ⟨q, m, n, s, rfl, hq, ok, h⟩ := h
  have nd := sc_Bench_run.nd
  have cl := G.c_Bench.cl
  refine set_ 1 nd (dx_fld G.c_Standing.cl G.a_Standing_own_rests (dx_fldM cl G.a_Bench_standing (v 0) hq rfl) rfl) ?_
  refine hs_ret (RX.freeze (rx_makeS2 F3 (hr.mono (by decide)) G.mk_Run G.g_Run (ax_cons (dx_fldM cl G.a_Bench_chain (v 0) hq rfl) (ax_cons (dx_fld G.c_Standing.cl G.a_Standing_cycle (dx_fldM cl G.a_Bench_standing (v 0) hq rfl) rfl) (ax_star (v 1) rfl ax_nil))) fun a ha => run_make ok.run (.inr rfl) ?_ a ha)) h
  rw [List.append_nil]
/-- the standing behind a deed -/
def Bs.deed (K : PySem.W.Frag) (s t : Bs) (word : Str) : Bs := { t with words := s.words ++ [word], ahead := s.dat K }
abbrev pLeadB (K : PySem.W.Frag) : PtD := fun ds M R => ∃ q m n s ns, ds = [.ptr q, cyD K ns] ∧ M q = some (ben K m n s) ∧ s.Ok m n ∧ In m ns ∧ ns.length ≤ 60 ∧ R .non (M.set q (ben K m n (s.deed K { s with cyc := ns } "lead")))
theorem strsD_app (ws : List Str) (z : Str) : strsD ws ++ [Dat.str z] = strsD (ws ++ [z]) := by simp [strsD]
theorem strsD_len (ws : List Str) : (strsD ws).length = ws.length := by simp [strsD]
theorem ok_set_lead (G : Wd K mg) (F : FnT K "set_lead" "Bench.set_lead" s_Bench_set_lead (He.ma K (He.ga K "Bench") "set_lead")) (F1 : FnR Pg w K mg base CX0 6 (He.ga K "lead_of") (spD K T (pLead K))) (F2 : FnR Pg w K mg base CX0 3 (He.ma K (He.ga K "Standing") "changed") (spD K T (pChanged K)))
    (F3 : FnR Pg w K mg base CX0 4 (He.ma K (He.ga K "Standing") "behind") (spD K T (pBehind K))) : FnR Pg w K mg base CX0 7 (He.ma K (He.ga K "Bench") "set_lead") (spD K T (pLeadB K)) := by
  obtain ⟨fd, F⟩ := F
  refine fd_ok F sc_Bench_set_lead (F.bindsN fun _ _ _ _ _ _ us hl => match us, hl with | [_, _], _ => rfl) (fun ds M R h => by obtain ⟨_, _, _, _, _, rfl, _⟩ := h; rfl) fun cdv A outer s H E ds M R hr h => ?_
  obtain ⟨q, m, n, s, ns, rfl, hq, ok, h1, h2, h⟩ := h
  have nd := sc_Bench_set_lead.nd
  have cl := G.c_Bench.cl
  have cs := G.c_Standing.cl
  refine set_ 2 nd (dx_call F1 (hr.mono (by decide)) G.g_lead_of G.k_lead_of (ax_cons (v 1) (ax_cons (dx_fld (G.cC false).cl (G.aM false) (dx_fldM cl G.a_Bench_chain (v 0) hq rfl) rfl) ax_nil)) ⟨m, .inr ⟨ns, rfl, fun x hx => by have := h1 x hx; omega, h2, rfl, rfl⟩⟩) ?_
  refine hs_ifF (tisN (v 2)) ?_
  refine set_ 3 nd (dx_fldM cl G.a_Bench_standing (v 0) hq rfl) ?_
  refine hs_fld cl G.a_Bench_standing (d := (s.deed K { s with cyc := ns } "lead").dat K) (RX.freeze (rx_meth F3 (hr.mono (by decide)) cs G.m_Standing_behind (RX.freeze (d := Bs.dat K { s with cyc := ns }) (M1 := M) (rx_meth F2 (hr.mono (by decide)) cs G.m_Standing_changed (v 3) (.inl ⟨_, rfl, rfl⟩) (ax_cons (dx_fld cs G.a_Standing_own_rests (v 3) rfl) (ax_cons (dx_fld cs G.a_Standing_own_carried (v 3) rfl) (ax_cons (v 2) ax_nil)))
    ⟨_, _, _, _, _, _, _, _, _, _, rfl, fun p hp => ⟨p, _, rfl, hp, rfl, rfl⟩⟩)) (.inl ⟨_, rfl, rfl⟩) (ax_cons (v 3) (ax_cons dx_str ax_nil)) ⟨_, _, _, _, _, _, _, strsD s.words, _, _, _, _, _, _, _, rfl, by rw [strsD_len]; have := ok.wl; omega, fun p hp => ⟨p, _, rfl, hp, rfl, ?_⟩⟩)) (v 0) hq (show 2 < 900 by decide) (hs_nil h)
  rw [strsD_app]; rfl
abbrev pAtB (K : PySem.W.Frag) : PtD := fun ds M R => ∃ q m n s k, ds = [.ptr q, .int ((k + 1 : Nat) : Int)] ∧ M q = some (ben K m n s) ∧ s.Ok m n ∧ k < n ∧ R (.int (s.rests.getD k 0)) M
theorem ok_benat (G : Wd K mg) (F : FnT K "__getitem__" "Bench.__getitem__" s_Bench___getitem__ (He.ma K (He.ga K "Bench") "__getitem__")) (F1 : FnR Pg w K mg base CX0 2 (He.ga K "is_between") (spD K T (pBtw K))) : FnR Pg w K mg base CX0 3 (He.ma K (He.ga K "Bench") "__getitem__") (spD K T (pAtB K)) := by
  obtain ⟨fd, F⟩ := F
  refine fd_ok F sc_Bench___getitem__ (F.bindsN fun _ _ _ _ _ _ us hl => match us, hl with | [_, _], _ => rfl) (fun ds M R h => by obtain ⟨_, _, _, _, _, rfl, _⟩ := h; rfl) fun cdv A outer s H E ds M R hr h => ?_
  obtain ⟨q, m, n, s, k, rfl, hq, ok, hk, h⟩ := h
  have cl := G.c_Bench.cl
  refine hs_ifF (tnot (b := true) (tx_val (dx_call F1 (hr.mono (by decide)) G.g_is_between G.k_is_between (ax_cons (v 1) (ax_cons dx_int (ax_cons (dx_fld (G.cC false).cl (G.aS false) (dx_fldM cl G.a_Bench_chain (v 0) hq rfl) rfl) ax_nil))) ⟨_, _, _, rfl, .inl ⟨_, rfl, ?_, rfl⟩⟩))) ?_
  · rw [decide_eq_true (show (1 : Int) ≤ ((k + 1 : Nat) : Int) by omega), decide_eq_true (show ((k + 1 : Nat) : Int) ≤ n by omega)]; rfl
  · refine hs_ret (dx_ix (dx_fld G.c_Standing.cl G.a_Standing_own_rests (dx_fldM cl G.a_Bench_standing (v 0) hq rfl) rfl) (dx_sub (v 1) dx_int) rfl ?_) h
    rw [show ((k + 1 : Nat) : Int) - 1 = (k : Nat) by omega]
    exact atI_ints (atI_pos (by rw [ok.r0]; exact hk))
abbrev pSetB (K : PySem.W.Frag) : PtD := fun ds M R => ∃ q m n s k x, ds = [.ptr q, .int ((k + 1 : Nat) : Int), .int x] ∧ M q = some (ben K m n s) ∧ s.Ok m n ∧ k < n ∧ 0 ≤ x ∧ x ≤ m - 1 ∧ R .non (M.set q (ben K m n (s.deed K { s with rests := s.rests.take k ++ x :: s.rests.drop (k + 1) } "rest")))
theorem ok_benset (G : Wd K mg) (F : FnT K "__setitem__" "Bench.__setitem__" s_Bench___setitem__ (He.ma K (He.ga K "Bench") "__setitem__")) (F1 : FnR Pg w K mg base CX0 2 (He.ga K "is_between") (spD K T (pBtw K))) (F2 : FnR Pg w K mg base CX0 3 (He.ma K (He.ga K "Standing") "changed") (spD K T (pChanged K)))
    (F3 : FnR Pg w K mg base CX0 4 (He.ma K (He.ga K "Standing") "behind") (spD K T (pBehind K))) : FnR Pg w K mg base CX0 5 (He.ma K (He.ga K "Bench") "__setitem__") (spD K T (pSetB K)) := by
  obtain ⟨fd, F⟩ := F
  refine fd_ok F sc_Bench___setitem__ (F.bindsN fun _ _ _ _ _ _ us hl => match us, hl with | [_, _, _], _ => rfl) (fun ds M R h => by obtain ⟨_, _, _, _, _, _, rfl, _⟩ := h; rfl) fun cdv A outer s H E ds M R hr h => ?_
  obtain ⟨q, m, n, s, k, x, rfl, hq, ok, hk, h1, h2, h⟩ := h
  have nd := sc_Bench___setitem__.nd
  have cl := G.c_Bench.cl
  have cs := G.c_Standing.cl
  refine hs_ifF (tnot (b := true) (tx_val (dx_call F1 (hr.mono (by decide)) G.g_is_between G.k_is_between (ax_cons (v 1) (ax_cons dx_int (ax_cons (dx_fld (G.cC false).cl (G.aS false) (dx_fldM cl G.a_Bench_chain (v 0) hq rfl) rfl) ax_nil))) ⟨_, _, _, rfl, .inl ⟨_, rfl, ?_, rfl⟩⟩))) ?_
  · rw [decide_eq_true (show (1 : Int) ≤ ((k + 1 : Nat) : Int) by omega), decide_eq_true (show ((k + 1 : Nat) : Int) ≤ n by omega)]; rfl
  refine hs_ifF (tnot (b := true) (tx_val (dx_call F1 (hr.mono (by decide)) G.g_is_between G.k_is_between (ax_cons (v 2) (ax_cons dx_int (ax_cons (dx_sub (dx_fld (G.cC false).cl (G.aM false) (dx_fldM cl G.a_Bench_chain (v 0) hq rfl) rfl) dx_int) ax_nil))) ⟨_, _, _, rfl, .inl ⟨_, rfl, ?_, rfl⟩⟩))) ?_
  · rw [decide_eq_true h1, decide_eq_true h2]; rfl
  refine set_ 3 nd (dx_fldM cl G.a_Bench_standing (v 0) hq rfl) ?_
  refine set_ 4 nd (DX.cast (dx_tup (ax_star (dx_slT (dx_fld cs G.a_Standing_own_rests (v 3) rfl) ox_none (ox_some (dx_sub (v 1) dx_int))) rfl (ax_cons (v 2) (ax_star (dx_slT (dx_fld cs G.a_Standing_own_rests (v 3) rfl) (ox_some (v 1)) ox_none) rfl ax_nil))) ?_) (d' := .tup (intsD (s.rests.take k ++ x :: s.rests.drop (k + 1)))) ?_ rfl) ?_
  · rw [show ((k + 1 : Nat) : Int) - 1 = (k : Nat) by omega, cutD_take, cutD_drop, intsD_take, intsD_drop]
    simp [intsD, ok.r0]
    have := ok.n6
    omega
  · rw [show ((k + 1 : Nat) : Int) - 1 = (k : Nat) by omega, cutD_take, cutD_drop, intsD_take, intsD_drop]
    simp [intsD]
  refine hs_fld cl G.a_Bench_standing (d := (s.deed K { s with rests := s.rests.take k ++ x :: s.rests.drop (k + 1) } "rest").dat K) (RX.freeze (rx_meth F3 (hr.mono (by decide)) cs G.m_Standing_behind (RX.freeze (d := Bs.dat K { s with rests := s.rests.take k ++ x :: s.rests.drop (k + 1) }) (M1 := M) (rx_meth F2 (hr.mono (by decide)) cs G.m_Standing_changed (v 3) (.inl ⟨_, rfl, rfl⟩) (ax_cons (v 4) (ax_cons (dx_fld cs G.a_Standing_own_carried (v 3) rfl) (ax_cons (dx_fld cs G.a_Standing_cycle (v 3) rfl) ax_nil)))
    ⟨_, _, _, _, _, _, _, _, _, _, rfl, fun p hp => ⟨p, _, rfl, hp, rfl, rfl⟩⟩)) (.inl ⟨_, rfl, rfl⟩) (ax_cons (v 3) (ax_cons dx_str ax_nil)) ⟨_, _, _, _, _, _, _, strsD s.words, _, _, _, _, _, _, _, rfl, by rw [strsD_len]; have := ok.wl; omega, fun p hp => ⟨p, _, rfl, hp, rfl, ?_⟩⟩)) (v 0) hq (show 2 < 900 by decide) (hs_nil h)
  rw [strsD_app]; rfl
/-- one beat -/
def Bs.go (m : Int) (n : Nat) (s : Bs) (g : Int) (cyc : List Int) : Bs × Int :=
  let p := beat false m s.rests g
  let recent := p.2 :: s.carried
  let out := ptg recent
  (⟨p.1, recent.take (n - 1), cyc, s.gone + 1, s.given + out, s.words, s.ahead⟩, out)
abbrev pGo (K : PySem.W.Frag) : PtD := fun ds M R => ∃ q m n s g ns, ds = [.ptr q, .int g, cyD K ns] ∧ M q = some (ben K m n s) ∧ s.Ok m n ∧ 0 ≤ g ∧ g ≤ m - 1 ∧ R (.int (s.go m n g ns).2) (M.set q (ben K m n (s.go m n g ns).1))
theorem carr_go {m : Int} {n : Nat} {s : Bs} (ok : s.Ok m n) {g : Int} (g0 : 0 ≤ g) (g1 : g ≤ m - 1) : Carr n n ((beat false m s.rests g).2 :: s.carried) := by
  obtain ⟨a, b⟩ := ok.ca
  refine ⟨by rw [List.length_cons, a]; have := ok.n1; omega, fun r hr => ?_⟩
  rcases List.mem_cons.mp hr with rfl | hr
  · exact ⟨by rw [(beat_len _ _ _ _).2, ok.r0], (beat_in false m s.rests g ok.ri g0 g1).2⟩
  · exact b r hr
theorem ok_go (G : Wd K mg) (F : FnT K "go" "Bench.go" s_Bench_go (He.ma K (He.ga K "Bench") "go")) (F1 : FnR Pg w K mg base CX0 5 (He.ma K (He.ga K "Prompt") "step") (spD K T (pStep K))) (F2 : FnR Pg w K mg base CX0 3 (He.ma K (He.ga K "Standing") "changed") (spD K T (pChanged K)))
    (F3 : FnR Pg w K mg base CX0 4 (He.ma K (He.ga K "Standing") "counted") (spD K T (pCounted K))) (F4 : FnR Pg w K mg base CX0 3 (He.ga K "put_together") (spD K T pPut)) : FnR Pg w K mg base CX0 6 (He.ma K (He.ga K "Bench") "go") (spD K T (pGo K)) := by
  obtain ⟨fd, F⟩ := F
  refine fd_ok F sc_Bench_go (F.bindsN fun _ _ _ _ _ _ us hl => match us, hl with | [_, _, _], _ => rfl) (fun ds M R h => by obtain ⟨_, _, _, _, _, _, rfl, _⟩ := h; rfl) fun cdv A outer s H E ds M R hr h => ?_
  obtain ⟨q, m, n, s, g, ns, rfl, hq, ok, g0, g1, h⟩ := h
  have nd := sc_Bench_go.nd
  have cl := G.c_Bench.cl
  have cs := G.c_Standing.cl
  have hn6 := ok.n6
  have hc := carr_go ok g0 g1
  refine set_ 3 nd (dx_fldM cl G.a_Bench_standing (v 0) hq rfl) ?_
  refine hs_asg (dx_meth F1 (hr.mono (by decide)) (G.cC false).cl G.m_Prompt_step (dx_fldM cl G.a_Bench_chain (v 0) hq rfl) (.inl ⟨_, rfl, rfl⟩) (ax_cons (dx_fld cs G.a_Standing_own_rests (v 3) rfl) (ax_cons (v 1) ax_nil)) ⟨m, n, s.rests, g, rfl, ok.r0, by omega, ok.ri, g0, g1, rfl, rfl⟩) (gx_tup rfl (gxs_cons (gn 4 nd) (gxs_cons (gn 5 nd) gxs_nil))) ?_
  refine set_ 6 nd (DX.cast (dx_tup (ax_cons (v 5) (ax_star (dx_fld cs G.a_Standing_own_carried (v 3) rfl) rfl ax_nil)) ?_) (d' := .tup (rowsD ((beat false m s.rests g).2 :: s.carried))) (by simp [rowsD]) rfl) ?_
  · simp [rowsD, ok.ca.1]; omega
  refine set_ 7 nd (dx_call F4 (hr.mono (by decide)) G.g_put_together G.k_put_together (ax_cons (v 6) ax_nil) ⟨n, _, rfl, hn6, hc, rfl, rfl⟩) ?_
  refine hs_fld cl G.a_Bench_standing (d := (s.go m n g ns).1.dat K) (RX.freeze (rx_meth F3 (hr.mono (by decide)) cs G.m_Standing_counted (RX.freeze (d := Bs.dat K { (s.go m n g ns).1 with gone := s.gone, given := s.given }) (M1 := M) (rx_meth F2 (hr.mono (by decide)) cs G.m_Standing_changed (v 3) (.inl ⟨_, rfl, rfl⟩) (ax_cons (v 4) (ax_cons (dx_slT (v 6) ox_none (ox_some (dx_sub (dx_fld (G.cC false).cl (G.aS false) (dx_fldM cl G.a_Bench_chain (v 0) hq rfl) rfl) dx_int))) (ax_cons (v 2) ax_nil)))
    ⟨_, _, _, _, _, _, _, _, _, _, rfl, fun p hp => ⟨p, _, rfl, hp, rfl, ?_⟩⟩)) (.inl ⟨_, rfl, rfl⟩) (ax_cons dx_int (ax_cons (v 7) ax_nil)) ⟨_, _, _, _, _, _, _, _, _, rfl, fun p hp => ⟨p, _, rfl, hp, rfl, rfl⟩⟩)) (v 0) hq (show 2 < 900 by decide) (hs_ret (v 7) h)
  rw [show ((n : Nat) : Int) - 1 = ((n - 1 : Nat) : Int) by have := ok.n1; omega, cutD_take, rowsD, ← List.map_take]
  rfl
end
end Tx
end
section
set_option autoImplicit false
namespace Tx
open PySem PySem.Spec PyProof.Rows L2 Da Mi StX
/-- a cycle for a bench -/
def CyIn (m : Int) (ns : List Int) : Prop := ns ≠ [] ∧ ns.length ≤ 60 ∧ In m ns
theorem CyIn.ok {m : Int} {ns : List Int} (h : CyIn m ns) (m9 : m ≤ 1000) : CyOk ns := ⟨h.1, h.2.1, fun x hx => by have := h.2.2 x hx; exact ⟨this.1, show x ≤ 10 ^ 30 by omega⟩⟩
theorem CyIn.shift {m : Int} {ns : List Int} (h : CyIn m ns) (m9 : m ≤ 1000) (k : Int) : CyIn m (shortest (rot k ns)) := by
  obtain ⟨a, b, c⟩ := ((h.ok m9).rot k).short
  exact ⟨a, b, fun x hx => h.2.2 x (rot_mem (shortest_sub hx))⟩
theorem Bs.Ok.cy {m : Int} {n : Nat} {s : Bs} (h : s.Ok m n) : CyIn m s.cyc := ⟨h.c0, h.c9, h.ci⟩
theorem go_ok {m : Int} {n : Nat} {s : Bs} (ok : s.Ok m n) {g : Int} (g0 : 0 ≤ g) (g1 : g ≤ m - 1) {ns : List Int} (hc : CyIn m ns) : (s.go m n g ns).1.Ok m n := by
  obtain ⟨a, b⟩ := carr_go ok g0 g1
  refine ⟨ok.m2, ok.m9, ok.n1, ok.n6, ?_, (beat_in false m s.rests g ok.ri g0 g1).1, ⟨?_, fun r hr => b r (List.mem_of_mem_take hr)⟩, hc.1, hc.2.1, hc.2.2, ok.wl⟩
  · show (beat false m s.rests g).1.length = n
    rw [(beat_len _ _ _ _).1, ok.r0]
  · show (((beat false m s.rests g).2 :: s.carried).take (n - 1)).length = n - 1
    rw [List.length_take, a]; omega
/-- t beats by the bench's own cycle -/
def Bs.stp (m : Int) (n : Nat) (s : Bs) : Nat → Bs × List Int
  | 0 => (s, [])
  | t + 1 =>
    let p := s.stp m n t
    let q := p.1.go m n (s.cyc.getD (t % s.cyc.length) 0) s.cyc
    (q.1, p.2 ++ [q.2])
theorem cy_num {m : Int} {ns : List Int} (h : CyIn m ns) (t : Nat) : 0 ≤ ns.getD (t % ns.length) 0 ∧ ns.getD (t % ns.length) 0 ≤ m - 1 := h.2.2 _ (Mi.getD_mem (Nat.mod_lt _ (List.length_pos_iff.mpr h.1)))
theorem stp_ok {m : Int} {n : Nat} {s : Bs} (ok : s.Ok m n) : ∀ t, (s.stp m n t).1.Ok m n ∧ (s.stp m n t).1.words = s.words ∧ (s.stp m n t).1.ahead = s.ahead ∧ (s.stp m n t).2.length = t
  | 0 => ⟨ok, rfl, rfl, rfl⟩
  | t + 1 => by
    obtain ⟨a, b, c, d⟩ := stp_ok ok t
    obtain ⟨g0, g1⟩ := cy_num ok.cy t
    exact ⟨go_ok a g0 g1 ok.cy, b, c, by rw [Bs.stp]; simp [d]⟩
/-- step -/
def Bs.step (K : PySem.W.Frag) (m : Int) (n : Nat) (s : Bs) (k : Nat) : Bs := s.deed K { (s.stp m n k).1 with cyc := shortest (rot k s.cyc) } "step"
section
variable {Pg : Program} {w : World} {K : PySem.W.Frag} {mg : Str → Option Value} {base : Heap} {T : TL}
abbrev pStepB (K : PySem.W.Frag) : PtD := fun ds M R => ∃ q m n s k, ds = [.ptr q, .int (k : Nat)] ∧ M q = some (ben K m n s) ∧ s.Ok m n ∧ k ≤ 2000 ∧ R (.lst (intsD (s.stp m n k).2)) (M.set q (ben K m n (s.step K m n k)))
theorem cyshl {X : Cx} {T : TL} {Γ : Gm} {M M1 M2 : MM} {a b : Expr} {pos : Pos} {ns : List Int} {k : Int} (G : Wd X.K mg) (F : FnR X.prog X.w X.K X.mg X.base CX0 7 (He.ma X.K (He.ga X.K "Cycle") "__lshift__") (spD X.K T (pCyShl X.K))) (hr : Room 7 X.A) (ha : DX X T Γ M a (cyD X.K ns) M1) (hb : DX X T Γ M1 b (.int k) M2) (h : CyOk ns) :
    DX X T Γ M (.BinOp a .LShift b pos) (cyD X.K (shortest (rot k ns))) M2 := by
  obtain ⟨fo, h1⟩ := G.ls_int
  obtain ⟨ro, h2⟩ := G.rl_int
  exact dx_shlO G.sf_Cycle G.f_Cycle___lshift__ G.fn_Cycle___lshift__ G.rs_Cycle h1 h2 G.sub_int F hr ha hb ⟨ns, k, rfl, h, rfl, rfl⟩
theorem ok_benstep (G : Wd K mg) (F : ∃ fd dv, FunD K "step" "Bench.step" (defArgs s_Bench_step) (defBody s_Bench_step) (defScope s_Bench_step) dv [] (He.ma K (He.ga K "Bench") "step") fd ∧ Binds K fd ["self", "many"] []) (F1 : FnR Pg w K mg base CX0 2 (He.ga K "is_between") (spD K T (pBtw K))) (F2 : FnR Pg w K mg base CX0 3 (He.ma K (He.ga K "Standing") "changed") (spD K T (pChanged K)))
    (F3 : FnR Pg w K mg base CX0 4 (He.ma K (He.ga K "Standing") "behind") (spD K T (pBehind K))) (F4 : FnR Pg w K mg base CX0 6 (He.ma K (He.ga K "Bench") "go") (spD K T (pGo K))) (F5 : FnR Pg w K mg base CX0 7 (He.ma K (He.ga K "Cycle") "__lshift__") (spD K T (pCyShl K)))
    (F6 : FnR Pg w K mg base CX0 2 (He.ma K (He.ga K "Cycle") "__getitem__") (spD K T (pCyAt K))) : FnR Pg w K mg base CX0 8 (He.ma K (He.ga K "Bench") "step") (spD K T (pStepB K)) := by
  obtain ⟨fd, dv, F, hb⟩ := F
  refine fd_okB F sc_Bench_step hb (fun ds M R h => by obtain ⟨_, _, _, _, _, rfl, _⟩ := h; rfl) fun cdv A outer s H E ds M R hr h => ?_
  obtain ⟨q, m, n, s, k, rfl, hq, ok, hk, h⟩ := h
  have nd := sc_Bench_step.nd
  have cl := G.c_Bench.cl
  have cs := G.c_Standing.cl
  have hcy := ok.cy
  refine hs_ifF (tnot (b := true) (tx_val (dx_call F1 (hr.mono (by decide)) G.g_is_between G.k_is_between (ax_cons (v 1) (ax_cons dx_int (ax_cons (gi G.i_MOST_STEPS) ax_nil))) ⟨_, _, _, rfl, .inl ⟨_, rfl, ?_, rfl⟩⟩))) ?_
  · rw [decide_eq_true (show (0 : Int) ≤ k by omega), decide_eq_true (show (k : Int) ≤ 2000 by omega)]; rfl
  refine hs_par3R 2 3 4 rfl nd rfl rfl rfl (by decide) (by decide) (by decide) rfl rfl rfl (R := fun ds M' => ∃ p, M p = none ∧ ds = [s.dat K, cyD K s.cyc, .ptr p] ∧ M' = M.set p (.ml [])) (arx_d (dx_fldM cl G.a_Bench_standing (v 0) hq rfl) (arx_d (dx_fld cs G.a_Standing_cycle (dx_fldM cl G.a_Bench_standing (v 0) hq rfl) rfl) (arx_l fun p hp => arx_nil ⟨p, hp, rfl, rfl⟩))) ?_ (fun ds M' h => by obtain ⟨p, _, e, _⟩ := h; rw [e]; rfl)
  rintro da db dc M1 ⟨p, hp, e, rfl⟩
  cases e
  have hpq : q ≠ p := fun z => by rw [z, hp] at hq; cases hq
  have mp : ∀ (a : MO) (b : MO), ((M.set p a).set q b) p = some a := fun a b => by rw [MM.set_ne (Ne.symm hpq)]; exact MM.set_same
  refine hs_for (ixR (n := k) G.n_range (v 1) (by omega)) (fun i Γ' M' => (∃ a, Γ' = [some (.ptr q), some (.int k), some (s.dat K), some (cyD K s.cyc), some (.ptr p), a, none]) ∧ M' = (M.set p (.ml (intsD (s.stp m n i).2))).set q (ben K m n (s.stp m n i).1)) ⟨⟨_, rfl⟩, ?_⟩ ?_ ?_ rfl PassesOwn.never
  · show M.set p (.ml []) = _
    rw [MM.set_self (p := q)]
    · rfl
    · rw [MM.set_ne hpq]; exact hq
  · rintro i Γ' M' hi ⟨⟨a, rfl⟩, rfl⟩
    obtain ⟨ok', w1, w2, wl⟩ := stp_ok ok i
    obtain ⟨g0, g1⟩ := cy_num hcy i
    refine ⟨_, _, gn 5 nd, ?_⟩
    refine hs_expr (dx_append (q := p) (ds := intsD (s.stp m n i).2) (d := .int ((s.stp m n i).1.go m n (s.cyc.getD (i % s.cyc.length) 0) s.cyc).2) (v 4) (dx_meth F4 (hr.mono (by decide)) cl G.m_Bench_go (v 0) (.inr ⟨q, _, rfl, MM.set_same, rfl⟩) (ax_cons (DX.cast (dx_ixO G.f_Cycle___getitem__ G.fn_Cycle___getitem__ G.fi_Cycle F6 (hr.mono (by decide)) (v 3) (v 5) (.inl ⟨_, rfl⟩) ⟨s.cyc, (i : Nat), rfl, hcy.1, rfl, rfl⟩) (d' := .int (s.cyc.getD (i % s.cyc.length) 0)) ?_ rfl) (ax_cons (v 3) ax_nil))
      ⟨q, m, n, _, _, _, rfl, MM.set_same, ok', g0, g1, rfl, rfl⟩) (mp _ _) ?_ ?_) (hs_nil ⟨⟨_, rfl⟩, ?_⟩)
    · congr 2
    · rw [MM.set_set]; exact mp _ _
    · rw [ints_len, wl]; omega
    · rw [MM.set_set, Bs.stp]
      rw [MM.set_comm (p := q) (q := p) hpq, MM.set_set]
      rw [show intsD (s.stp m n i).2 ++ [Dat.int ((s.stp m n i).1.go m n (s.cyc.getD (i % s.cyc.length) 0) s.cyc).2] = intsD ((s.stp m n i).2 ++ [((s.stp m n i).1.go m n (s.cyc.getD (i % s.cyc.length) 0) s.cyc).2]) by simp [intsD]]
  · rintro Γ' M' ⟨⟨a, rfl⟩, rfl⟩
    obtain ⟨ok', w1, w2, wl⟩ := stp_ok ok k
    refine hs_fz 4 (q := p) (mo := .ml (intsD (s.stp m n k).2)) (Γ2 := [some (.ptr q), some (.int k), some (s.dat K), some (cyD K s.cyc), some (.lst (intsD (s.stp m n k).2)), a, none]) (mp _ _) rfl rfl (Mq := M.set q (ben K m n (s.stp m n k).1)) ?_ ?_
    · rw [MM.set_comm (p := p) (q := q) (Ne.symm hpq)]
      exact MM.del_set (by rw [MM.set_ne (Ne.symm hpq)]; exact hp)
    refine set_ 6 nd (dx_fldM cl G.a_Bench_standing (v 0) MM.set_same rfl) ?_
    refine hs_fld cl G.a_Bench_standing (d := (s.step K m n k).dat K) (RX.freeze (rx_meth F3 (hr.mono (by decide)) cs G.m_Standing_behind (RX.freeze (d := Bs.dat K { (s.stp m n k).1 with cyc := shortest (rot k s.cyc) }) (M1 := M.set q (ben K m n (s.stp m n k).1)) (rx_meth F2 (hr.mono (by decide)) cs G.m_Standing_changed (v 6) (.inl ⟨_, rfl, rfl⟩) (ax_cons (dx_fld cs G.a_Standing_own_rests (v 6) rfl) (ax_cons (dx_fld cs G.a_Standing_own_carried (v 6) rfl) (ax_cons (cyshl G F5 (hr.mono (by decide)) (v 3) (v 1) (hcy.ok ok.m9)) ax_nil)))
      ⟨_, _, _, _, _, _, _, _, _, _, rfl, fun p hp => ⟨p, _, rfl, hp, rfl, rfl⟩⟩)) (.inl ⟨_, rfl, rfl⟩) (ax_cons (v 2) (ax_cons dx_str ax_nil)) ⟨_, _, _, _, _, _, _, strsD s.words, _, _, _, _, _, _, _, rfl, by rw [strsD_len]; have := ok.wl; omega, fun p hp => ⟨p, _, rfl, hp, rfl, ?_⟩⟩)) (v 0) MM.set_same (show 2 < 900 by decide) (hs_ret (v 4) ?_)
    · rw [strsD_app]; rfl
    · rw [MM.set_set]; exact h
end
end Tx
end
section
set_option autoImplicit false
namespace Tx
open PySem PySem.Spec PyProof.Rows L2 Da Mi StX
theorem num_in {r : Rn} (h : r.Ok) (b : Int) : 0 ≤ r.num b ∧ r.num b ≤ r.m - 1 := h.li _ (Mi.getD_mem (mod_lt' h.l0 b))
theorem rests_in {r : Rn} (h : r.Ok) (b : Int) : In r.m (r.rests b) ∧ (r.rests b).length = r.n := ⟨fun x hx => by
  obtain ⟨k, hk, rfl⟩ := List.mem_map.mp hx
  exact r.rest_in h _ _, by simp [Rn.rests]⟩
theorem carries_ok {r : Rn} (h : r.Ok) (b : Int) : (r.carries b).length = r.n ∧ ∀ c ∈ r.carries b, c = 0 ∨ c = 1 := by
  obtain ⟨a, l⟩ := rests_in h (b - 1)
  obtain ⟨g0, g1⟩ := num_in h (b - 1)
  exact ⟨by unfold Rn.carries; rw [(beat_len _ _ _ _).2, l], (beat_in r.late r.m _ _ a g0 g1).2⟩
def Bs.rn (m : Int) (n : Nat) (s : Bs) : Rn := ⟨false, m, n, s.cyc, s.rests⟩
def Bs.lcar (m : Int) (n : Nat) (s : Bs) (k : Nat) : List (List Int) := (((List.range (min k (n - 1))).map fun (a : Nat) => (s.rn m n).carries ((k : Int) - a)) ++ s.carried).take (n - 1)
def Bs.lgive (m : Int) (n : Nat) (s : Bs) (k : Nat) : Int := ((s.rn m n).inputs k + s.rests.getD 0 0 - ((s.rn m n).rests k).getD 0 0) / m + (pta (s.lcar m n k) - pta s.carried)
def Bs.leap (K : PySem.W.Frag) (m : Int) (n : Nat) (s : Bs) (k : Nat) : Bs := s.deed K ⟨(s.rn m n).rests k, s.lcar m n k, shortest (rot k s.cyc), s.gone + k, s.given + s.lgive m n k, s.words, s.ahead⟩ "leap"
theorem lcar_ok {m : Int} {n : Nat} {s : Bs} (ok : s.Ok m n) (k : Nat) : Carr n (n - 1) (s.lcar m n k) := by
  obtain ⟨a, b⟩ := ok.ca
  refine ⟨by unfold Bs.lcar; rw [List.length_take, List.length_append, a]; omega, fun r hr => ?_⟩
  rcases List.mem_append.mp (List.mem_of_mem_take hr) with h | h
  · obtain ⟨t, _, rfl⟩ := List.mem_map.mp h
    exact carries_ok (r := s.rn m n) ok.run _
  · exact b r h
theorem leap_ok {K : PySem.W.Frag} {m : Int} {n : Nat} {s : Bs} (ok : s.Ok m n) (hw : s.words.length ≤ 700000) (k : Nat) : (s.leap K m n k).Ok m n := by
  obtain ⟨a, b⟩ := rests_in (r := s.rn m n) ok.run k
  obtain ⟨c1, c2, c3⟩ := ok.cy.shift ok.m9 (k : Int)
  exact ⟨ok.m2, ok.m9, ok.n1, ok.n6, b, a, lcar_ok ok k, c1, c2, c3, by show (s.words ++ [("leap" : Str)]).length ≤ 800000; rw [List.length_append]; simp; omega⟩
section
variable {Pg : Program} {w : World} {K : PySem.W.Frag} {mg : Str → Option Value} {base : Heap} {T : TL}
abbrev pLeap (K : PySem.W.Frag) : PtD := fun ds M R => ∃ q m n s k, ds = [.ptr q, .int (k : Nat)] ∧ M q = some (ben K m n s) ∧ s.Ok m n ∧ k ≤ 2000 ∧ R (.int (s.lgive m n k)) (M.set q (ben K m n (s.leap K m n k)))
theorem ok_leap (G : Wd K mg) (F : FnT K "leap" "Bench.leap" s_Bench_leap (He.ma K (He.ga K "Bench") "leap")) (F1 : FnR Pg w K mg base CX0 2 (He.ga K "is_between") (spD K T (pBtw K))) (F2 : FnR Pg w K mg base CX0 3 (He.ma K (He.ga K "Standing") "changed") (spD K T (pChanged K)))
    (F3 : FnR Pg w K mg base CX0 4 (He.ma K (He.ga K "Standing") "behind") (spD K T (pBehind K))) (F4 : FnR Pg w K mg base CX0 4 (He.ma K (He.ga K "Standing") "counted") (spD K T (pCounted K))) (F5 : FnR Pg w K mg base CX0 7 (He.ma K (He.ga K "Cycle") "__lshift__") (spD K T (pCyShl K)))
    (F6 : FnR Pg w K mg base CX0 9 (He.ma K (He.ga K "Bench") "run") (spD K T (pRunB K))) (F7 : FnR Pg w K mg base CX0 5 (He.ma K (He.ga K "Run") "carries_at") (spD K T (pCarr K))) (F8 : FnR Pg w K mg base CX0 4 (He.ma K (He.ga K "Run") "rests_at") (spD K T (pRests K)))
    (F9 : FnR Pg w K mg base CX0 3 (He.ma K (He.ga K "Run") "inputs_to") (spD K T (pInputs K))) (Fa : FnR Pg w K mg base CX0 3 (He.ga K "put_together_ahead") (spD K T pPutA)) : FnR Pg w K mg base CX0 10 (He.ma K (He.ga K "Bench") "leap") (spD K T (pLeap K)) := by
  obtain ⟨fd, F⟩ := F
  refine fd_ok F sc_Bench_leap (F.bindsN fun _ _ _ _ _ _ us hl => match us, hl with | [_, _], _ => rfl) (fun ds M R h => by obtain ⟨_, _, _, _, _, rfl, _⟩ := h; rfl) fun cdv A outer s H E ds M R hr h => ?_
  obtain ⟨q, m, n, s, k, rfl, hq, ok, hk, h⟩ := h
  have nd := sc_Bench_leap.nd
  have cl := G.c_Bench.cl
  have cs := G.c_Standing.cl
  have hcy := ok.cy
  have hn1 := ok.n1
  have hn6 := ok.n6
  have m2 := ok.m2
  have m9 := ok.m9
  have okr : (s.rn m n).Ok := ok.run
  refine hs_ifF (tnot (b := true) (tx_val (dx_call F1 (hr.mono (by decide)) G.g_is_between G.k_is_between (ax_cons (v 1) (ax_cons dx_int (ax_cons (gi G.i_MOST_LEAP) ax_nil))) ⟨_, _, _, rfl, .inl ⟨_, rfl, ?_, rfl⟩⟩))) ?_
  · rw [decide_eq_true (show (0 : Int) ≤ k by omega), decide_eq_true (show (k : Int) ≤ 1000000000000000000000000000000 by omega)]; rfl
  refine hs_asg (tup2 (dx_fldM cl G.a_Bench_standing (v 0) hq rfl) (dx_meth0 F6 (hr.mono (by decide)) cl G.m_Bench_run (v 0) (.inr ⟨q, _, rfl, hq, rfl⟩) ⟨q, m, n, s, rfl, hq, ok, rfl, rfl⟩)) (gx_tup rfl (gxs_cons (gn 2 nd) (gxs_cons (gn 3 nd) gxs_nil))) ?_
  refine hs_setLc (n := min k (n - 1)) (j := 5) (i := 4) (fun _ => M) (fun (a : Nat) => .tup (intsD ((s.rn m n).carries ((k : Int) - a)))) rfl nd rfl rfl (sw_true rfl rfl rfl (by decide +kernel)) (ixR G.n_range (DX.cast (dx_min2 rfl G.n_min (dx_intI G.n_int (v 1)) (dx_sub (dx_fld (G.cC false).cl (G.aS false) (dx_fldM cl G.a_Bench_chain (v 0) hq rfl) rfl) dx_int)) (congrArg Dat.int ?_) rfl) (by omega)) rfl
    (blkOk_by (N := N_Bench_leap) (sc := defScope s_Bench_leap) (by decide +kernel)) (fun _ _ _ _ _ => pg_name nd rfl (.inl rfl)) rfl (by omega) (fun _ _ _ _ _ a ha => dx_meth F7 (hr.mono (by decide)) G.c_Run.cl G.m_Run_carries_at (v 3) (.inl ⟨_, rfl, rfl⟩) (ax_cons (dx_sub (v 1) (v 5)) ax_nil) ⟨s.rn m n, _, rfl, okr, by omega, by omega, rfl, rfl⟩) ?_
  · split <;> omega
  refine set_ 6 nd (DX.cast (dx_slT (dx_tup (ax_star (v 4) rfl (ax_star (dx_fld cs G.a_Standing_own_carried (v 2) rfl) rfl ax_nil)) ?_) ox_none (ox_some (dx_sub (dx_fld (G.cC false).cl (G.aS false) (dx_fldM cl G.a_Bench_chain (v 0) hq rfl) rfl) dx_int))) (d' := .tup (rowsD (s.lcar m n k))) ?_ rfl) ?_
  · simp [rowsD, ok.ca.1]; omega
  · rw [show ((n : Nat) : Int) - 1 = ((n - 1 : Nat) : Int) by omega, cutD_take]
    simp [rowsD, Bs.lcar, List.map_take, Function.comp_def]
  refine set_ 7 nd (dx_meth F8 (hr.mono (by decide)) G.c_Run.cl G.m_Run_rests_at (v 3) (.inl ⟨_, rfl, rfl⟩) (ax_cons (v 1) ax_nil) ⟨s.rn m n, k, rfl, okr, by omega, by omega, rfl, rfl⟩) ?_
  have hr0 : 0 < s.rests.length := by rw [ok.r0]; omega
  have hr1 : 0 < ((s.rn m n).rests k).length := by rw [(rests_in okr k).2]; exact hn1
  refine set_ 8 nd (dx_fdiv (dx_sub (dx_add (dx_meth F9 (hr.mono (by decide)) G.c_Run.cl G.m_Run_inputs_to (v 3) (.inl ⟨_, rfl, rfl⟩) (ax_cons (v 1) ax_nil) ⟨s.rn m n, k, rfl, okr, by omega, by omega, rfl, rfl⟩) (dx_ix (dx_fld cs G.a_Standing_own_rests (v 2) rfl) dx_int rfl (atI_ints (atI_pos (i := 0) hr0)))) (dx_ix (v 7) dx_int rfl (atI_ints (atI_pos (i := 0) hr1)))) (dx_fld (G.cC false).cl (G.aM false) (dx_fldM cl G.a_Bench_chain (v 0) hq rfl) rfl) ⟨by omega, by omega⟩) ?_
  have ec : n - 1 + 1 = n := by omega
  refine hs_augA 8 nd rfl (.inl rfl) rfl (dx_sub (dx_call Fa (hr.mono (by decide)) G.g_put_together_ahead G.k_put_together_ahead (ax_cons (v 6) ax_nil) ⟨n - 1, _, rfl, by omega, by rw [ec]; exact lcar_ok ok k, rfl, rfl⟩) (dx_call Fa (hr.mono (by decide)) G.g_put_together_ahead G.k_put_together_ahead (ax_cons (dx_fld cs G.a_Standing_own_carried (v 2) rfl) ax_nil) ⟨n - 1, _, rfl, by omega, by rw [ec]; exact ok.ca, rfl, rfl⟩)) ?_
  refine set_ 9 nd (d := Bs.dat K ⟨(s.rn m n).rests k, s.lcar m n k, shortest (rot k s.cyc), s.gone + k, s.given + s.lgive m n k, s.words, s.ahead⟩) (RX.freeze (rx_meth F4 (hr.mono (by decide)) cs G.m_Standing_counted (RX.freeze (d := Bs.dat K ⟨(s.rn m n).rests k, s.lcar m n k, shortest (rot k s.cyc), s.gone, s.given, s.words, s.ahead⟩) (M1 := M) (rx_meth F2 (hr.mono (by decide)) cs G.m_Standing_changed (v 2) (.inl ⟨_, rfl, rfl⟩) (ax_cons (v 7) (ax_cons (v 6) (ax_cons (cyshl G F5 (hr.mono (by decide)) (dx_fld cs G.a_Standing_cycle (v 2) rfl) (v 1) (hcy.ok ok.m9)) ax_nil)))
    ⟨_, _, _, _, _, _, _, _, _, _, rfl, fun p hp => ⟨p, _, rfl, hp, rfl, rfl⟩⟩)) (.inl ⟨_, rfl, rfl⟩) (ax_cons (v 1) (ax_cons (v 8) ax_nil)) ⟨_, _, _, _, _, _, _, _, _, rfl, fun p hp => ⟨p, _, rfl, hp, rfl, rfl⟩⟩)) ?_
  refine hs_fld cl G.a_Bench_standing (d := (s.leap K m n k).dat K) (RX.freeze (rx_meth F3 (hr.mono (by decide)) cs G.m_Standing_behind (v 9) (.inl ⟨_, rfl, rfl⟩) (ax_cons (v 2) (ax_cons dx_str ax_nil)) ⟨_, _, _, _, _, _, _, strsD s.words, _, _, _, _, _, _, _, rfl, by rw [strsD_len]; have := ok.wl; omega, fun p hp => ⟨p, _, rfl, hp, rfl, ?_⟩⟩)) (v 0) hq (show 2 < 900 by decide) (hs_ret (v 8) h)
  rw [strsD_app]; rfl
abbrev pUndo (K : PySem.W.Frag) : PtD := fun ds M R => ∃ q m n s prev ws z, ds = [.ptr q] ∧ M q = some (ben K m n s) ∧ s.ahead = Bs.dat K prev ∧ s.words = ws ++ [z] ∧ R (.str z) (M.set q (ben K m n prev))
theorem ok_undo (G : Wd K mg) (F : FnT K "undo" "Bench.undo" s_Bench_undo (He.ma K (He.ga K "Bench") "undo")) : FnR Pg w K mg base CX0 1 (He.ma K (He.ga K "Bench") "undo") (spD K T (pUndo K)) := by
  obtain ⟨fd, F⟩ := F
  refine fd_ok F sc_Bench_undo (F.bindsN fun _ _ _ _ _ _ us hl => match us, hl with | [_], _ => rfl) (fun ds M R h => by obtain ⟨_, _, _, _, _, _, _, rfl, _⟩ := h; rfl) fun cdv A outer s H E ds M R hr h => ?_
  obtain ⟨q, m, n, s, prev, ws, z, rfl, hq, e1, e2, h⟩ := h
  obtain ⟨r1, r2, r3, r4, r5, r6, r7⟩ := s
  simp only at e1 e2
  subst e1 e2
  have nd := sc_Bench_undo.nd
  have cl := G.c_Bench.cl
  have cs := G.c_Standing.cl
  refine set_ 1 nd (dx_fldM cl G.a_Bench_standing (v 0) hq rfl) ?_
  refine hs_ifF (tisN (dx_fld cs G.a_Standing_ahead (v 1) rfl)) ?_
  refine hs_fld cl G.a_Bench_standing (dx_fld cs G.a_Standing_ahead (v 1) rfl) (v 0) hq (show 2 < 900 by decide) (hs_ret (dx_ix (dx_fld cs G.a_Standing_words (v 1) rfl) (dx_neg dx_int) rfl (d := .str z) ?_) h)
  show atI (strsD (ws ++ [z])) (-1) = _
  rw [← strsD_app]
  exact atI_last _ _
/-- a bench that was made from what another tells -/
abbrev pBenOf (K : PySem.W.Frag) : PtD := fun ds M R => ∃ (m : Int) (n : Nat) (s : Bs), ds = [chD K false m n, cyD K s.cyc, .tup (intsD s.rests), .tup (rowsD s.carried), .int s.gone, .int s.given] ∧ s.Ok m n ∧ ∀ p, M p = none → R (.ptr p) (M.set p (ben K m n { s with words := [], ahead := .non }))
theorem ok_bench_of (G : Wd K mg) (F : FnT K "bench_of" "bench_of" s_bench_of (He.ga K "bench_of")) (F1 : FnR Pg w K mg base CX0 7 (He.ma K (He.ga K "Run") "__init__") (spD K T (pRun K))) (F2 : FnR Pg w K mg base CX0 10 (He.ma K (He.ga K "Bench") "__init__") (spD K T (pBench K)))
    (F3 : FnR Pg w K mg base CX0 1 (He.ma K (He.ga K "Standing") "__init__") (spD K T (pSt K))) (F4 : FnR Pg w K mg base CX0 4 (He.ma K (He.ga K "Standing") "counted") (spD K T (pCounted K))) (F5 : FnR Pg w K mg base CX0 1 (prG K (He.ga K "Bench") "lead_now") (spD K T (pGet K fun s => cyD K s.cyc))) :
    FnR Pg w K mg base CX0 12 (He.ga K "bench_of") (spD K T (pBenOf K)) := by
  obtain ⟨fd, F⟩ := F
  refine fd_ok F sc_bench_of (F.bindsN fun _ _ _ _ _ _ us hl => match us, hl with | [_, _, _, _, _, _], _ => rfl) (fun ds M R h => by obtain ⟨_, _, _, rfl, _⟩ := h; rfl) fun cdv A outer s H E ds M R hr h => ?_
  obtain ⟨m, n, s, rfl, ok, h⟩ := h
  have nd := sc_bench_of.nd
  have cl := G.c_Bench.cl
  have cs := G.c_Standing.cl
  have okr : (s.rn m n).Ok := ok.run
  refine hs_setR 6 nd rfl (.inl rfl) (Rx := fun dd M' => ∃ p, M p = none ∧ dd = .ptr p ∧ M' = M.set p (ben K m n (bench0 (s.rn m n)))) (rx_make F2 (hr.mono (by decide)) G.mk_Bench G.g_Bench (ax_cons (RX.freeze (rx_makeS2 F1 (hr.mono (by decide)) G.mk_Run G.g_Run (ax_cons (v 0) (ax_cons (v 1) (ax_star (v 2) rfl ax_nil))) fun a ha => run_make (r := s.rn m n) okr (.inr rfl) (by rw [List.append_nil]; rfl) a ha)) ax_nil) fun p hp => ⟨p, _, rfl, MM.set_same, okr, rfl, p, hp, rfl, MM.set_set⟩) ?_
  rintro dd M' ⟨p, hp, rfl, rfl⟩
  refine set_ 7 nd (d := Bs.dat K { s with gone := 0, given := 0, words := [], ahead := .non }) (RX.freeze (rx_make F3 (hr.mono (by decide)) G.mk_Standing G.g_Standing (ax_cons (dx_tuple G.n_tuple (v 2) rfl) (ax_cons (DX.cast (dx_tuple G.n_tuple (lcD (n := s.carried.length) (j := 8) (xs := fun i => .tup (intsD (s.carried.getD i []))) (fun i => .tup (intsD (s.carried.getD i []))) rfl nd (IX.congr (ix_tup' (v 3)) (by simp [rowsD]) fun i hi => ?_) (blkOk_by (N := N_bench_of) (sc := defScope s_bench_of) (by decide +kernel)) (fun _ _ _ _ _ => pg_name nd rfl (.inl rfl)) (by rw [ok.ca.1]; have := ok.n6; omega)
    fun _ _ _ _ _ i hi => dx_tuple G.n_tuple (v 8) rfl) rfl) (d' := .tup (rowsD s.carried)) ?_ rfl) (ax_cons (dx_prop F5 (hr.mono (by decide)) cl G.p_Bench_lead_now (v 6) (.inr ⟨p, _, rfl, MM.set_same⟩) ⟨p, m, n, _, rfl, MM.set_same, rfl, rfl⟩) ax_nil))) fun x hx => ⟨x, _, _, _, rfl, MM.set_same, rfl, x, _, rfl, hx, MM.set_set, rfl⟩)) ?_
  · have hi2 : i < s.carried.length := by simpa [rowsD] using hi
    simp [rowsD, List.getD_eq_getElem?_getD, hi2]
  · congr 1
    apply List.ext_getElem
    · simp [rowsD]
    · intro i a b
      simp only [List.getElem_map, List.getElem_range, rowsD]
      have hi : i < s.carried.length := by simpa using a
      simp [List.getD_eq_getElem?_getD, hi]
  refine hs_fld cl G.a_Bench_standing (d := Bs.dat K { s with words := [], ahead := .non }) (RX.freeze (rx_meth F4 (hr.mono (by decide)) cs G.m_Standing_counted (v 7) (.inl ⟨_, rfl, rfl⟩) (ax_cons (v 4) (ax_cons (v 5) ax_nil)) ⟨_, _, _, 0, 0, _, _, s.gone, s.given, rfl, fun p hp => ⟨p, _, rfl, hp, rfl, ?_⟩⟩)) (v 6) MM.set_same (show 2 < 900 by decide) (hs_ret (v 6) ?_)
  · rw [Int.zero_add, Int.zero_add]; rfl
  · rw [MM.set_set]; exact h p hp
abbrev pTwin (K : PySem.W.Frag) : PtD := fun ds M R => ∃ q m n s, ds = [.ptr q] ∧ M q = some (ben K m n s) ∧ s.Ok m n ∧ ∀ p, M p = none → R (.ptr p) (M.set p (ben K m n { s with words := [], ahead := .non }))
theorem ok_twin (G : Wd K mg) (F : FnT K "twin" "Bench.twin" s_Bench_twin (He.ma K (He.ga K "Bench") "twin")) (F1 : FnR Pg w K mg base CX0 12 (He.ga K "bench_of") (spD K T (pBenOf K))) : FnR Pg w K mg base CX0 13 (He.ma K (He.ga K "Bench") "twin") (spD K T (pTwin K)) := by
  obtain ⟨fd, F⟩ := F
  refine fd_ok F sc_Bench_twin (F.bindsN fun _ _ _ _ _ _ us hl => match us, hl with | [_], _ => rfl) (fun ds M R h => by obtain ⟨_, _, _, _, rfl, _⟩ := h; rfl) fun cdv A outer s H E ds M R hr h => ?_
  obtain ⟨q, m, n, s, rfl, hq, ok, h⟩ := h
  have nd := sc_Bench_twin.nd
  have cl := G.c_Bench.cl
  have cs := G.c_Standing.cl
  refine set_ 1 nd (dx_fldM cl G.a_Bench_standing (v 0) hq rfl) ?_
  exact hs_retR (rx_call F1 hr G.g_bench_of G.k_bench_of (ax_cons (dx_fldM cl G.a_Bench_chain (v 0) hq rfl) (ax_cons (dx_fld cs G.a_Standing_cycle (v 1) rfl) (ax_cons (dx_fld cs G.a_Standing_own_rests (v 1) rfl) (ax_cons (dx_fld cs G.a_Standing_own_carried (v 1) rfl) (ax_cons (dx_fld cs G.a_Standing_gone (v 1) rfl) (ax_cons (dx_fld cs G.a_Standing_sum_given (v 1) rfl) ax_nil)))))) (R := R) ⟨m, n, s, rfl, ok, h⟩) fun d M1 hR => hR
end
end Tx
end
section
set_option autoImplicit false
namespace Tx
open PySem PySem.Spec PyProof.Rows L2 Da Mi StX
def penM (p : Pen) : MO := .ml [.lst (intsD p.cells), .int p.at_, .int p.left]
section
variable {Pg : Program} {w : World} {K : PySem.W.Frag} {mg : Str → Option Value} {base : Heap} {T : TL}
abbrev pDraw : PtD := fun ds M R => ∃ q p many, ds = [.ptr q, .int many] ∧ M q = some (penM p) ∧ 0 < many ∧ many < 1000 ∧ p.at_ ≤ 100000 ∧ R (.int (p.draw many).1) (M.set q (penM (p.draw many).2))
theorem ok_draw (G : Wd K mg) (F : FnT K "_law_draw" "_law_draw" s__law_draw (He.ga K "_law_draw")) : FnR Pg w K mg base CX0 1 (He.ga K "_law_draw") (spD K T pDraw) := by
  obtain ⟨fd, F⟩ := F
  refine fd_ok F sc__law_draw (F.bindsN fun _ _ _ _ _ _ us hl => match us, hl with | [_, _], _ => rfl) (fun ds M R h => by obtain ⟨_, _, _, rfl, _⟩ := h; rfl) fun cdv A outer s H E ds M R hr h => ?_
  obtain ⟨q, p, many, rfl, hq, h0, h1, h2, h⟩ := h
  obtain ⟨cells, a, left⟩ := p
  replace h2 : a ≤ 100000 := h2
  replace hq : M q = some (.ml [.lst (intsD cells), .int a, .int left]) := hq
  have nd := sc__law_draw.nd
  by_cases hl : 0 < left
  · rw [Pen.draw, if_pos hl] at h
    refine hs_ifT (TX.cast (tx_gt (dx_ixM (v 0) dx_int hq rfl) dx_int) (decide_eq_true hl)) ?_
    refine set_ 2 nd (dx_mod (dx_intI G.n_int (dx_ixM (v 0) dx_int hq rfl)) (v 1) h0) ?_
    refine hs_asg (dx_fdiv (dx_intI G.n_int (dx_ixM (v 0) dx_int hq rfl)) (v 1) ⟨h0, by omega⟩) (gx_sub (v 0) dx_int hq (n := 2) rfl) ?_
    exact hs_ret (v 2) h
  · refine hs_ifF (TX.cast (tx_gt (dx_ixM (v 0) dx_int hq rfl) dx_int) (decide_eq_false hl)) ?_
    rw [Pen.draw, if_neg hl] at h
    refine set_ 3 nd (dx_ixM (v 0) dx_int hq rfl) ?_
    refine hs_asg (dx_add (v 3) dx_int) (gx_sub (v 0) dx_int hq (n := 1) rfl) ?_
    have hq2 : (M.set q (MO.ml ([Dat.lst (intsD cells), Dat.int a, Dat.int left].set 1 (Dat.int ((a : Int) + 1))))) q = some (.ml [.lst (intsD cells), .int ((a + 1 : Nat) : Int), .int left]) := by rw [MM.set_same]; rfl
    generalize hM : M.set q (MO.ml ([Dat.lst (intsD cells), Dat.int a, Dat.int left].set 1 (Dat.int ((a : Int) + 1)))) = M1 at hq2 ⊢
    refine set_ 4 nd (dx_add (dx_mul dx_int (v 3) (.inl ⟨by decide, by decide⟩)) dx_int) ?_
    -- the cell
    have step : ∀ Γ, Γ = [some (.ptr q), some (.int many), none, some (.int a), some (.int (Pen.cell ⟨cells, a, left⟩)), none, none] → HS (cxOf CX0 Pg w K mg base N__law_draw "_law_draw" (defScope s__law_draw) (He.ga K "_law_draw") cdv A outer s H E).nox T Γ M1 ((defBody s__law_draw).drop 5) (retR R) := by
      rintro Γ rfl
      have hMq : M1.set q (penM ⟨cells, a + 1, left⟩) = M1 := MM.set_self hq2
      have hab : (if Pen.cell ⟨cells, a, left⟩ < 0 then -(Pen.cell ⟨cells, a, left⟩) else Pen.cell ⟨cells, a, left⟩) = Pen.absc ⟨cells, a, left⟩ := rfl
      refine hs_if (b := decide (a < cells.length ∧ 10 ^ 18 ≤ Pen.absc ⟨cells, a, left⟩)) (TX.cast (wx_and (b1 := decide (a < cells.length)) (b2 := decide (10 ^ 18 ≤ Pen.absc ⟨cells, a, left⟩)) (TX.cast (tx_lt (v 3) (dx_len G.n_len (dx_ixM (v 0) dx_int hq2 rfl) rfl)) ?_) (fun _ => wx_and1 (tx_ge (dx_abs G.n_abs (v 4)) (dx_pow dx_int dx_int ⟨by decide, by decide, by decide⟩))) (fun _ => rfl)).pt ?_) (fun hb => ?_) fun hb => ?_
      · rw [ints_len]; congr 1; apply propext; omega
      · simp
      · have hb := of_decide_eq_true hb
        rw [if_pos hb] at h
        refine set_ 5 nd (d := .int (Pen.great ⟨cells, a, left⟩)) (dx_add (dx_mul dx_int (dx_sub (dx_abs G.n_abs (v 4)) (dx_pow dx_int dx_int ⟨by decide, by decide, by decide⟩)) (.inl ⟨by decide, by decide⟩)) (DX.cast (dx_intB G.n_int (dx_lt (v 4) dx_int)) (congrArg Dat.int ?_) rfl)) ?_
        · by_cases hc : Pen.cell ⟨cells, a, left⟩ < 0 <;> simp [hc]
        refine hs_asg (dx_fdiv (dx_intI G.n_int (v 5)) (v 1) ⟨h0, by omega⟩) (gx_sub (v 0) dx_int hq2 (n := 2) rfl) ?_
        refine hs_ret (dx_mod (dx_intI G.n_int (v 5)) (v 1) h0) ?_
        rw [← hM, MM.set_set]
        exact h
      · have hb := of_decide_eq_false hb
        rw [if_neg hb] at h
        refine hs_nil ?_
        have e1 := Int.emod_nonneg (Pen.cell ⟨cells, a, left⟩) (show (2147483543 : Int) ≠ 0 by decide)
        have e2 := Int.emod_lt_of_pos (Pen.cell ⟨cells, a, left⟩) (show (0 : Int) < 2147483543 by decide)
        refine set_ 6 nd (d := .int (Pen.mix1 ⟨cells, a, left⟩)) (dx_mod (dx_intI G.n_int (dx_pow (dx_add (dx_add (dx_mod (dx_intI G.n_int (v 4)) dx_int (by decide)) (dx_mul dx_int (v 3) (.inl ⟨by decide, by decide⟩))) dx_int) dx_int ⟨by decide, by decide, ?_⟩)) dx_int (by decide)) ?_
        · show (Pen.cell ⟨cells, a, left⟩ % 2147483543 + 71887 * (a : Int) + 977).natAbs < 2 ^ 64
          omega
        have m1 := Int.emod_nonneg ((Pen.cell ⟨cells, a, left⟩ % 2147483543 + 71887 * (a : Int) + 977) ^ 5) (show (2147483629 : Int) ≠ 0 by decide)
        have m2 := Int.emod_lt_of_pos ((Pen.cell ⟨cells, a, left⟩ % 2147483543 + 71887 * (a : Int) + 977) ^ 5) (show (0 : Int) < 2147483629 by decide)
        have m3 : 0 ≤ Pen.mix1 ⟨cells, a, left⟩ ∧ Pen.mix1 ⟨cells, a, left⟩ < 2147483629 := ⟨m1, m2⟩
        clear m1 m2
        have hmul : Pen.mix1 ⟨cells, a, left⟩ * (2 * (a : Int) + 401) ≤ 2147483629 * 200401 := Int.mul_le_mul (by omega) (by omega) (by omega) (by omega)
        have hmul0 : 0 ≤ Pen.mix1 ⟨cells, a, left⟩ * (2 * (a : Int) + 401) := Int.mul_nonneg m3.1 (by omega)
        have hsq : (50311 * (a : Int)) * (a : Int) ≤ (50311 * 100000) * 100000 := Int.mul_le_mul (by omega) (by omega) (by omega) (by omega)
        have hsq0 : 0 ≤ (50311 * (a : Int)) * (a : Int) := Int.mul_nonneg (by omega) (by omega)
        refine set_ 6 nd (d := .int (Pen.mix2 ⟨cells, a, left⟩)) (dx_mod (dx_intI G.n_int (dx_pow (dx_add (dx_add (dx_mul (v 6) (dx_add (dx_mul dx_int (v 3) (.inl ⟨by decide, by decide⟩)) dx_int) (.inl ⟨by show -(2 ^ 64) < Pen.mix1 ⟨cells, a, left⟩; omega, by omega⟩)) (dx_mul (dx_mul dx_int (v 3) (.inl ⟨by decide, by decide⟩)) (v 3) (.inr (show -(2 ^ 64) < (a : Int) ∧ (a : Int) < 2 ^ 64 by omega)))) dx_int) dx_int ⟨by decide, by decide, ?_⟩)) dx_int (by decide)) ?_
        · show (Pen.mix1 ⟨cells, a, left⟩ * (2 * (a : Int) + 401) + 50311 * (a : Int) * (a : Int) + 131).natAbs < 2 ^ 64
          omega
        refine hs_ret (dx_mod (dx_intI G.n_int (dx_fdiv (v 6) dx_int ⟨by decide, by decide⟩)) (v 1) h0) ?_
        rw [← hM]
        exact h
    cases cells with
    | nil =>
      refine hs_ifF (tNeSame (q := .list []) hr.units (dx_ixM (v 0) dx_int hq2 rfl) (dx_lst ax_nil) rfl rfl rfl) (step _ ?_)
      simp [Pen.cell]; rfl
    | cons c cs =>
      refine hs_ifT (tNeNil hr.units (dx_ixM (v 0) dx_int hq2 rfl) (dx_lst ax_nil) (py_ints (c :: cs)) (shp_list (lay_ints (c :: cs)))) ?_
      refine set_ 4 nd (dx_ix (dx_ixM (v 0) dx_int hq2 rfl) (dx_mod (dx_intI G.n_int (v 3)) (dx_len G.n_len (dx_ixM (v 0) dx_int hq2 rfl) rfl) ?_) rfl (d := .int (Pen.cell ⟨c :: cs, a, left⟩)) ?_) (hs_nil (step _ ?_))
      · rw [ints_len]; exact Int.natCast_pos.mpr (by simp)
      · rw [ints_len]
        have := atI_mod (ns := c :: cs) (by simp) (a : Int)
        rw [this]
        unfold Pen.cell
        rw [if_neg (by simp), ← Int.natCast_emod, Int.toNat_natCast]
      · rfl
abbrev pPick : PtD := fun ds M R => ∃ q p xs, ds = [.ptr q, .lst xs] ∧ M q = some (penM p) ∧ 0 < xs.length ∧ xs.length < 1000 ∧ p.at_ ≤ 100000 ∧ R (xs.getD (p.draw xs.length).1.toNat .non) (M.set q (penM (p.draw xs.length).2))
theorem ok_pick (G : Wd K mg) (F : FnT K "_law_pick" "_law_pick" s__law_pick (He.ga K "_law_pick")) (F1 : FnR Pg w K mg base CX0 1 (He.ga K "_law_draw") (spD K T pDraw)) : FnR Pg w K mg base CX0 2 (He.ga K "_law_pick") (spD K T pPick) := by
  obtain ⟨fd, F⟩ := F
  refine fd_ok F sc__law_pick (F.bindsN fun _ _ _ _ _ _ us hl => match us, hl with | [_, _], _ => rfl) (fun ds M R h => by obtain ⟨_, _, _, rfl, _⟩ := h; rfl) fun cdv A outer s H E ds M R hr h => ?_
  obtain ⟨q, p, xs, rfl, hq, h0, h1, h2, h⟩ := h
  obtain ⟨a, b, c⟩ := p.draw_in (many := xs.length) (by omega)
  refine hs_ret (dx_ix (v 1) (dx_call F1 (hr.mono (by decide)) G.g__law_draw G.k__law_draw (ax_cons (v 0) (ax_cons (dx_len G.n_len (v 1) rfl) ax_nil)) ⟨q, p, _, rfl, hq, by omega, by omega, h2, rfl, rfl⟩) rfl ?_) h
  have hl : (p.draw xs.length).1.toNat < xs.length := by omega
  have : xs[(p.draw xs.length).1.toNat]? = some (xs.getD (p.draw xs.length).1.toNat .non) := by simp [List.getD_eq_getElem?_getD, hl]
  rw [← atI_nat this]
  congr 1
  omega
abbrev pNum : PtD := fun ds M R => ∃ q p wide, ds = [.ptr q, .int wide] ∧ M q = some (penM p) ∧ 2 ≤ wide ∧ wide < 1000 ∧ p.at_ ≤ 90000 ∧ R (.int (p.num wide).1) (M.set q (penM (p.num wide).2))
theorem ok_number (G : Wd K mg) (F : FnT K "_law_number" "_law_number" s__law_number (He.ga K "_law_number")) (F1 : FnR Pg w K mg base CX0 1 (He.ga K "_law_draw") (spD K T pDraw)) (F2 : FnR Pg w K mg base CX0 2 (He.ga K "_law_pick") (spD K T pPick)) : FnR Pg w K mg base CX0 3 (He.ga K "_law_number") (spD K T pNum) := by
  obtain ⟨fd, F⟩ := F
  refine fd_ok F sc__law_number (F.bindsN fun _ _ _ _ _ _ us hl => match us, hl with | [_, _], _ => rfl) (fun ds M R h => by obtain ⟨_, _, _, rfl, _⟩ := h; rfl) fun cdv A outer s H E ds M R hr h => ?_
  obtain ⟨q, p, wide, rfl, hq, h0, h1, h2, h⟩ := h
  obtain ⟨a, b, c⟩ := p.draw_in (many := wide) (by omega)
  refine hs_ret (dx_call F2 (hr.mono (by decide)) G.g__law_pick G.k__law_pick (ax_cons (v 0) (ax_cons (DX.cast (dx_lst (ax_cons dx_int (ax_cons dx_int (ax_cons (dx_sub (v 1) dx_int) (ax_cons (dx_fdiv (v 1) dx_int ⟨by decide, by decide⟩) (ax_cons (dx_call F1 (hr.mono (by decide)) G.g__law_draw G.k__law_draw (ax_cons (v 0) (ax_cons (v 1) ax_nil)) ⟨q, p, wide, rfl, hq, by omega, by omega, by omega, rfl, rfl⟩) ax_nil))))) (by simp)) (d' := .lst (intsD [0, 1, wide - 1, wide / 2, (p.draw wide).1])) rfl rfl) ax_nil)) (d := .int (p.num wide).1) (M2 := M.set q (penM (p.num wide).2)) ⟨q, (p.draw wide).2, _, rfl, MM.set_same, by simp, by simp, by omega, ?_, ?_⟩) h
  · obtain ⟨d, e, f⟩ := (p.draw wide).2.draw_in (many := 5) (by omega)
    have hl : ((p.draw wide).2.draw 5).1.toNat < [0, 1, wide - 1, wide / 2, (p.draw wide).1].length := by simp; omega
    have := ints_getD hl
    exact this
  · rw [MM.set_set]; rfl
end
end Tx
end
section
set_option autoImplicit false
namespace Tx
open PySem PySem.Spec PyProof.Rows L2 Da Mi StX
/-- what is drawn for a run -/
structure Pl where
  late : Bool
  wide : Int
  row : List Int
  some_ : List Int
structure Pl.Ok (p : Pl) : Prop where
  w2 : 2 ≤ p.wide
  w9 : p.wide ≤ 30
  r0 : p.row ≠ []
  r9 : p.row.length ≤ 6
  ri : In p.wide p.row
  s1 : 1 ≤ p.some_.length
  s6 : p.some_.length ≤ 6
  si : In p.wide p.some_
def Pl.dat (p : Pl) : Dat := .tup [.bl p.late, .int p.wide, .lst (intsD p.row), .lst (intsD p.some_)]
/-- its run -/
def Pl.run (p : Pl) : Rn := ⟨p.late, p.wide, p.some_.length, shortest p.row, p.some_⟩
theorem Pl.Ok.cy {p : Pl} (h : p.Ok) : CyIn p.wide p.row := ⟨h.r0, by have := h.r9; omega, h.ri⟩
theorem Pl.Ok.run {p : Pl} (h : p.Ok) : p.run.Ok := by
  have c := h.cy.ok (by have := h.w9; omega)
  exact ⟨h.w2, by show p.wide ≤ 1000; have := h.w9; omega, h.s1, h.s6, c.short.1, c.short.2.1, fun x hx => h.ri x (shortest_sub hx), rfl, h.si⟩
section
variable {Pg : Program} {w : World} {K : PySem.W.Frag} {mg : Str → Option Value} {base : Heap} {T : TL}
theorem pick_get {xs : List Int} {d : Int} (h0 : 0 ≤ d) (h : d < xs.length) : (intsD xs).getD d.toNat .non = .int (xs.getD d.toNat 0) ∧ xs.getD d.toNat 0 ∈ xs := by
  have hl : d.toNat < xs.length := by omega
  exact ⟨ints_getD hl, Mi.getD_mem hl⟩
/-- _law_pick of written numbers -/
theorem pickI {X : Cx} {Γ : Gm} {M M1 : MM} {e1 e2 : Expr} {pos p1 : Pos} {q : Addr} {p : Pen} {xs : List Int} {w0 : World} (G : Wd X.K mg) (F : FnR X.prog X.w X.K X.mg X.base CX0 2 (He.ga X.K "_law_pick") (spD X.K T pPick)) (hm : X.mg "_law_pick" = some (.ref (He.ga X.K "_law_pick"))) (hr : Room 2 X.A) (h1 : DX X T Γ M e1 (.ptr q) M) (h2 : DX X T Γ M e2 (.lst (intsD xs)) M1) (hq : M1 q = some (penM p)) (h0 : 0 < xs.length) (h9 : xs.length < 1000) (ha : p.at_ ≤ 100000) (hg : Gl X "_law_pick" := by rfl)
    (he : starEach [e1, e2] X.env = (false, eval e1 X.env) :: starEach [e2] X.env := by rfl) (he2 : starEach [e2] X.env = (false, eval e2 X.env) :: starEach [] X.env := by rfl) (hpl : (backTo pos (starEach [e2] X.env)).any (·.1) = false := by rfl) :
    DX X T Γ M (.Call (.Name "_law_pick" p1) [e1, e2] [] pos) (.int (xs.getD (p.draw xs.length).1.toNat 0)) (M1.set q (penM (p.draw xs.length).2)) := by
  obtain ⟨a, b, c⟩ := p.draw_in (many := xs.length) (by omega)
  refine dx_call F hr hm G.k__law_pick (ax_cons h1 (ax_cons h2 ax_nil he2) he) ⟨q, p, _, rfl, hq, by rw [ints_len]; exact h0, by rw [ints_len]; exact h9, ha, ?_⟩ hg (by decide) he hpl
  rw [ints_len]
  exact ⟨((pick_get a b).1).symm ▸ rfl, rfl⟩
abbrev pPlain : PtD := fun ds M R => ∃ q p, ds = [.ptr q, .int 6] ∧ M q = some (penM p) ∧ p.at_ ≤ 80000 ∧ ∀ (l : Pl) (p' : Pen), l.Ok → p'.at_ ≤ p.at_ + 40 → R l.dat (M.set q (penM p'))
theorem ok_plain (G : Wd K mg) (F : FnT K "_law_plain" "_law_plain" s__law_plain (He.ga K "_law_plain")) (F1 : FnR Pg w K mg base CX0 1 (He.ga K "_law_draw") (spD K T pDraw)) (F2 : FnR Pg w K mg base CX0 2 (He.ga K "_law_pick") (spD K T pPick)) (F3 : FnR Pg w K mg base CX0 3 (He.ga K "_law_number") (spD K T pNum)) :
    FnR Pg w K mg base CX0 4 (He.ga K "_law_plain") (spD K T pPlain) := by
  obtain ⟨fd, F⟩ := F
  refine fd_ok F sc__law_plain (F.bindsN fun _ _ _ _ _ _ us hl => match us, hl with | [_, _], _ => rfl) (fun ds M R h => by obtain ⟨_, _, rfl, _⟩ := h; rfl) fun cdv A outer s H E ds M R hr h => ?_
  obtain ⟨q, p, rfl, hq, h2, h⟩ := h
  have nd := sc__law_plain.nd
  -- the draws
  obtain ⟨a0, a1, a2⟩ := p.draw_in (many := 10) (by decide)
  generalize hp1 : (p.draw 10).2 = p1 at a2
  have hw := pick_get (xs := [2, 3, 4, 5, 6, 8, 9, 12, 16, 30]) a0 a1
  generalize hwide : [2, 3, 4, 5, 6, 8, 9, 12, 16, 30].getD (p.draw 10).1.toNat (0 : Int) = wide at hw
  have hw2 : 2 ≤ wide ∧ wide ≤ 30 := by
    have := hw.2
    simp only [List.mem_cons, List.not_mem_nil, or_false] at this
    omega
  obtain ⟨b0, b1, b2⟩ := p1.draw_in (many := 6) (by decide)
  generalize hp2 : (p1.draw 6).2 = p2 at b2
  generalize hdd : (p1.draw 6).1 = dd at b0 b1
  obtain ⟨c0, c1, c2⟩ := p2.draw_in (many := 7) (by decide)
  generalize hp3 : (p2.draw 7).2 = p3 at c2
  have hn := pick_get (xs := [1, 1, 1, 2, 3, 4, 6]) c0 c1
  generalize hnn : [1, 1, 1, 2, 3, 4, 6].getD (p2.draw 7).1.toNat (0 : Int) = nn at hn
  have hn2 : 1 ≤ nn ∧ nn ≤ 6 := by
    have := hn.2
    simp only [List.mem_cons, List.not_mem_nil, or_false] at this
    omega
  obtain ⟨d1, d2, d3⟩ := p3.nums_in hw2.1 nn.toNat
  generalize hp4 : (p3.nums wide nn.toNat).2 = p4 at d3
  obtain ⟨e0, e1, e2⟩ := p4.draw_in (many := 2) (by decide)
  generalize hp5 : (p4.draw 2).2 = p5 at e2
  obtain ⟨f1, f2, f3⟩ := p5.nums_in hw2.1 (1 + dd).toNat
  have hl1 : (p3.nums wide nn.toNat).1.length ≤ 6 := by omega
  refine hs_asg (tup2 (DX.cast (pickI (xs := [2, 3, 4, 5, 6, 8, 9, 12, 16, 30]) (w0 := w) G F2 G.g__law_pick (hr.mono (by decide)) (v 0) (DX.cast (dx_lst (ax_cons dx_int (ax_cons dx_int (ax_cons dx_int (ax_cons dx_int (ax_cons dx_int (ax_cons dx_int (ax_cons dx_int (ax_cons dx_int (ax_cons dx_int (ax_cons dx_int ax_nil)))))))))) (by simp)) rfl rfl) hq (by simp) (by simp) (by omega)) (congrArg Dat.int hwide) (congrArg (fun z => M.set q (penM z)) hp1))
    (dx_add dx_int (DX.cast (dx_call F1 (hr.mono (by decide)) G.g__law_draw G.k__law_draw (ax_cons (v 0) (ax_cons (v 1) ax_nil)) ⟨q, p1, 6, rfl, MM.set_same, by decide, by decide, by omega, rfl, rfl⟩) (congrArg Dat.int hdd) (by rw [MM.set_set, hp2])))) (gx_tup rfl (gxs_cons (gn 2 nd) (gxs_cons (gn 3 nd) gxs_nil))) ?_
  refine hs_setLc (n := nn.toNat) (j := 5) (i := 4) (fun i => M.set q (penM (p3.nums wide i).2)) (fun i => .int ((p3.nums wide i).2.num wide).1) rfl nd rfl rfl (sw_true rfl rfl rfl (by decide +kernel)) (ixR G.n_range (DX.cast (pickI (xs := [1, 1, 1, 2, 3, 4, 6]) (w0 := w) G F2 G.g__law_pick (hr.mono (by decide)) (v 0) (DX.cast (dx_lst (ax_cons dx_int (ax_cons dx_int (ax_cons dx_int (ax_cons dx_int (ax_cons dx_int (ax_cons dx_int (ax_cons dx_int ax_nil))))))) (by simp)) rfl rfl) MM.set_same (by simp) (by simp) (by omega)) (congrArg Dat.int (hnn.trans (show nn = (nn.toNat : Int) by omega))) rfl) (by omega)) rfl
    (blkOk_by (N := N__law_plain) (sc := defScope s__law_plain) (by decide +kernel)) (fun _ _ _ _ _ => pg_name nd rfl (.inl rfl)) (by rw [MM.set_set]; exact congrArg (fun z => M.set q (penM z)) hp3.symm) (by omega) (fun _ _ _ _ _ i hi => ?_) ?_
  · obtain ⟨g1, g2, g3⟩ := p3.nums_in hw2.1 i
    exact dx_call F3 (hr.mono (by decide)) G.g__law_number G.k__law_number (ax_cons (v 0) (ax_cons (v 2) ax_nil)) ⟨q, _, wide, rfl, MM.set_same, hw2.1, by omega, by omega, rfl, MM.set_set⟩
  have ers : ∀ (pn : Pen) (k : Nat), (List.range k).map (fun i => Dat.int ((pn.nums wide i).2.num wide).1) = intsD (pn.nums wide k).1 := fun pn k => by
    induction k with
    | zero => rfl
    | succ k ih => rw [List.range_succ, List.map_append, ih, Pen.nums]; simp [intsD]
  rw [ers, hp4]
  refine hs_ret (DX.cast (dx_tup (ax_cons (dx_eq (dx_call F1 (hr.mono (by decide)) G.g__law_draw G.k__law_draw (ax_cons (v 0) (ax_cons dx_int ax_nil)) ⟨q, p4, 2, rfl, MM.set_same, by decide, by decide, by omega, rfl, rfl⟩) dx_int) (ax_cons (v 2) (ax_cons (v 4) (ax_cons (dx_lc (n := (1 + dd).toNat) (j := 5) (fun i => M.set q (penM (p5.nums wide i).2)) (fun i => .int ((p5.nums wide i).2.num wide).1) rfl nd (ixR G.n_range (DX.cast (v 3) (congrArg Dat.int (show 1 + dd = ((1 + dd).toNat : Int) by omega)) rfl) (by omega)) rfl
    (blkOk_by (N := N__law_plain) (sc := defScope s__law_plain) (by decide +kernel)) (fun _ _ _ _ _ => pg_name nd rfl (.inl rfl)) ?_ (by omega) (fun _ _ _ _ _ i hi => ?_)) ax_nil)))) (by simp)) ?_ rfl) (h ⟨decide ((p4.draw 2).1 = 1), wide, (p3.nums wide nn.toNat).1, (p5.nums wide (1 + dd).toNat).1⟩ (p5.nums wide (1 + dd).toNat).2 ⟨hw2.1, hw2.2, ?_, hl1, d1, ?_, ?_, f1⟩ ?_)
  · show M.set q (penM p5) = _
    rw [MM.set_set, hp5]
  · obtain ⟨g1, g2, g3⟩ := p5.nums_in hw2.1 i
    exact dx_call F3 (hr.mono (by decide)) G.g__law_number G.k__law_number (ax_cons (v 0) (ax_cons (v 2) ax_nil)) ⟨q, _, wide, rfl, MM.set_same, hw2.1, by omega, by omega, rfl, MM.set_set⟩
  · rw [ers]; rfl
  · intro z
    replace z : (p3.nums wide nn.toNat).1 = [] := z
    rw [z] at d2
    simp at d2
    omega
  · show 1 ≤ (p5.nums wide (1 + dd).toNat).1.length
    omega
  · show (p5.nums wide (1 + dd).toNat).1.length ≤ 6
    omega
  · omega
abbrev pLRun (K : PySem.W.Frag) : PtD := fun ds M R => ∃ l : Pl, ds = [l.dat] ∧ l.Ok ∧ R (runD K l.run) M
theorem ok_lawrun (G : Wd K mg) (F : FnT K "_law_run" "_law_run" s__law_run (He.ga K "_law_run")) (F1 : ∀ late, FnR Pg w K mg base CX0 4 (He.ma K (chC K late) "__init__") (spD K T (pChain K late))) (F2 : FnR Pg w K mg base CX0 6 (stG K (He.ga K "Cycle") "of") (spD K T (pCyOf K))) (F3 : FnR Pg w K mg base CX0 7 (He.ma K (He.ga K "Run") "__init__") (spD K T (pRun K))) :
    FnR Pg w K mg base CX0 9 (He.ga K "_law_run") (spD K T (pLRun K)) := by
  obtain ⟨fd, F⟩ := F
  refine fd_ok F sc__law_run (F.bindsN fun _ _ _ _ _ _ us hl => match us, hl with | [_], _ => rfl) (fun ds M R h => by obtain ⟨_, rfl, _⟩ := h; rfl) fun cdv A outer s H E ds M R hr h => ?_
  obtain ⟨l, rfl, ok, h⟩ := h
  have nd := sc__law_run.nd
  have okr := ok.run
  obtain ⟨late, wide, row, some_⟩ := l
  have w2 := ok.w2
  have w9 := ok.w9
  have hr9 := ok.r9
  have hs6 := ok.s6
  replace w2 : 2 ≤ wide := w2
  replace w9 : wide ≤ 30 := w9
  replace hr9 : row.length ≤ 6 := hr9
  replace hs6 : some_.length ≤ 6 := hs6
  have hs1 : 1 ≤ some_.length := ok.s1
  have hr1 : 0 < row.length := List.length_pos_iff.mpr ok.r0
  show HS _ T (gm0 N__law_run [.tup [.bl late, .int wide, .lst (intsD row), .lst (intsD some_)]]) M _ _
  refine hs_asg (v 0) (gx_tup rfl (gxs_cons (gn 1 nd) (gxs_cons (gn 2 nd) (gxs_cons (gn 3 nd) (gxs_cons (gn 4 nd) gxs_nil))))) ?_
  refine set_ 5 nd (M1 := M) (d := chD K late wide some_.length) (dx_if (bb := late) (tx_val (v 1)) (fun hb => ?_) fun hb => ?_) ?_
  · subst hb
    exact RX.freeze (rx_make (F1 true) (hr.mono (by decide)) G.mk_Late G.g_Late (ax_cons (DX.cast (dx_len G.n_len (v 4) rfl) (d' := .int some_.length) (by rw [ints_len]) rfl) (ax_cons (v 2) ax_nil)) fun a ha => ⟨a, wide, some_.length, rfl, MM.set_same, hs1, hs6, w2, by omega, rfl, a, _, rfl, ha, MM.set_set, rfl⟩)
  · subst hb
    exact RX.freeze (rx_make (F1 false) (hr.mono (by decide)) G.mk_Prompt G.g_Prompt (ax_cons (DX.cast (dx_len G.n_len (v 4) rfl) (d' := .int some_.length) (by rw [ints_len]) rfl) (ax_cons (v 2) ax_nil)) fun a ha => ⟨a, wide, some_.length, rfl, MM.set_same, hs1, hs6, w2, by omega, rfl, a, _, rfl, ha, MM.set_set, rfl⟩)
  obtain ⟨told, hT, hL⟩ : ∃ told, leadIn K wide told (shortest row) ∧ told = if 1 < row.length then cyD K (shortest row) else .int (row.getD 0 0) := by
    by_cases hl : 1 < row.length
    · exact ⟨_, .inr rfl, by rw [if_pos hl]⟩
    · have e : row = [row.getD 0 0] := by
        match row, hr1, hl with
        | [x], _, _ => rfl
        | x :: y :: r, _, hl => exact absurd (show 1 < (x :: y :: r).length by simp) hl
      have hx := ok.ri (row.getD 0 0) (Mi.getD_mem hr1)
      exact ⟨_, .inl ⟨row.getD 0 0, rfl, by rw [e]; rfl, hx.1, hx.2⟩, by rw [if_neg hl]⟩
  refine set_ 6 nd (M1 := M) (d := told) (dx_if (bb := decide (1 < row.length)) (TX.cast (tx_gt (dx_len G.n_len (v 3) rfl) dx_int) ?_) (fun hb => ?_) fun hb => ?_) ?_
  · rw [ints_len]; congr 1; apply propext; omega
  · rw [hL, if_pos (of_decide_eq_true hb)]
    exact dx_smeth F2 (hr.mono (by decide)) G.st_of (gr G.g_Cycle) (ax_cons (v 3) ax_nil) ⟨_, row, rfl, rfl, ok.cy.ok (show wide ≤ 1000 by omega), rfl, rfl⟩
  · rw [hL, if_neg (of_decide_eq_false hb)]
    exact dx_ix (v 3) dx_int rfl (atI_ints (atI_pos (i := 0) hr1))
  match some_, hs1, hs6, ok, okr, h, hT with
  | [a], _, _, ok, okr, h, hT =>
    refine hs_ifT (TX.cast (tx_eq (dx_len G.n_len (v 4) rfl) dx_int) rfl) ?_
    exact hs_ret (RX.freeze (rx_make F3 (hr.mono (by decide)) G.mk_Run G.g_Run (ax_cons (v 5) (ax_cons (v 6) (ax_cons (dx_ix (v 4) dx_int rfl rfl) ax_nil))) fun a ha => run_make okr hT rfl a ha)) h
  | [a, b], _, _, ok, okr, h, hT =>
    refine hs_ifF (TX.cast (tx_eq (dx_len G.n_len (v 4) rfl) dx_int) rfl) (hs_ifT (TX.cast (tx_eq (dx_len G.n_len (v 4) rfl) dx_int) rfl) ?_)
    exact hs_ret (RX.freeze (rx_make F3 (hr.mono (by decide)) G.mk_Run G.g_Run (ax_cons (v 5) (ax_cons (v 6) (ax_cons (dx_ix (v 4) dx_int rfl rfl) (ax_cons (dx_ix (v 4) dx_int rfl rfl) ax_nil)))) fun a ha => run_make okr hT rfl a ha)) h
  | [a, b, c], _, _, ok, okr, h, hT =>
    refine hs_ifF (TX.cast (tx_eq (dx_len G.n_len (v 4) rfl) dx_int) rfl) (hs_ifF (TX.cast (tx_eq (dx_len G.n_len (v 4) rfl) dx_int) rfl) (hs_ifT (TX.cast (tx_eq (dx_len G.n_len (v 4) rfl) dx_int) rfl) ?_))
    exact hs_ret (RX.freeze (rx_make F3 (hr.mono (by decide)) G.mk_Run G.g_Run (ax_cons (v 5) (ax_cons (v 6) (ax_cons (dx_ix (v 4) dx_int rfl rfl) (ax_cons (dx_ix (v 4) dx_int rfl rfl) (ax_cons (dx_ix (v 4) dx_int rfl rfl) ax_nil))))) fun a ha => run_make okr hT rfl a ha)) h
  | [a, b, c, d], _, _, ok, okr, h, hT =>
    refine hs_ifF (TX.cast (tx_eq (dx_len G.n_len (v 4) rfl) dx_int) rfl) (hs_ifF (TX.cast (tx_eq (dx_len G.n_len (v 4) rfl) dx_int) rfl) (hs_ifF (TX.cast (tx_eq (dx_len G.n_len (v 4) rfl) dx_int) rfl) (hs_ifT (TX.cast (tx_eq (dx_len G.n_len (v 4) rfl) dx_int) rfl) ?_)))
    exact hs_ret (RX.freeze (rx_make F3 (hr.mono (by decide)) G.mk_Run G.g_Run (ax_cons (v 5) (ax_cons (v 6) (ax_cons (dx_ix (v 4) dx_int rfl rfl) (ax_cons (dx_ix (v 4) dx_int rfl rfl) (ax_cons (dx_ix (v 4) dx_int rfl rfl) (ax_cons (dx_ix (v 4) dx_int rfl rfl) ax_nil)))))) fun a ha => run_make okr hT rfl a ha)) h
  | [a, b, c, d, e], _, _, ok, okr, h, hT =>
    refine hs_ifF (TX.cast (tx_eq (dx_len G.n_len (v 4) rfl) dx_int) rfl) (hs_ifF (TX.cast (tx_eq (dx_len G.n_len (v 4) rfl) dx_int) rfl) (hs_ifF (TX.cast (tx_eq (dx_len G.n_len (v 4) rfl) dx_int) rfl) (hs_ifF (TX.cast (tx_eq (dx_len G.n_len (v 4) rfl) dx_int) rfl) (hs_ifT (TX.cast (tx_eq (dx_len G.n_len (v 4) rfl) dx_int) rfl) ?_))))
    exact hs_ret (RX.freeze (rx_make F3 (hr.mono (by decide)) G.mk_Run G.g_Run (ax_cons (v 5) (ax_cons (v 6) (ax_cons (dx_ix (v 4) dx_int rfl rfl) (ax_cons (dx_ix (v 4) dx_int rfl rfl) (ax_cons (dx_ix (v 4) dx_int rfl rfl) (ax_cons (dx_ix (v 4) dx_int rfl rfl) (ax_cons (dx_ix (v 4) dx_int rfl rfl) ax_nil))))))) fun a ha => run_make okr hT rfl a ha)) h
  | [a, b, c, d, e, f], _, _, ok, okr, h, hT =>
    refine hs_ifF (TX.cast (tx_eq (dx_len G.n_len (v 4) rfl) dx_int) rfl) (hs_ifF (TX.cast (tx_eq (dx_len G.n_len (v 4) rfl) dx_int) rfl) (hs_ifF (TX.cast (tx_eq (dx_len G.n_len (v 4) rfl) dx_int) rfl) (hs_ifF (TX.cast (tx_eq (dx_len G.n_len (v 4) rfl) dx_int) rfl) (hs_ifF (TX.cast (tx_eq (dx_len G.n_len (v 4) rfl) dx_int) rfl) ?_))))
    exact hs_ret (RX.freeze (rx_make F3 (hr.mono (by decide)) G.mk_Run G.g_Run (ax_cons (v 5) (ax_cons (v 6) (ax_cons (dx_ix (v 4) dx_int rfl rfl) (ax_cons (dx_ix (v 4) dx_int rfl rfl) (ax_cons (dx_ix (v 4) dx_int rfl rfl) (ax_cons (dx_ix (v 4) dx_int rfl rfl) (ax_cons (dx_ix (v 4) dx_int rfl rfl) (ax_cons (dx_ix (v 4) dx_int rfl rfl) ax_nil)))))))) fun a ha => run_make okr hT rfl a ha)) h
end
end Tx
end
section
set_option autoImplicit false
namespace Tx
open PySem PySem.Spec PyProof.Rows L2 Da Mi StX
theorem del2 {M : MM} {p : Addr} {a : MO} (h : M p = none) : (M.set p a).del p = M := MM.del_set h
theorem arx_dict {X : Cx} {T : TL} {Γ : Gm} {M : MM} {es : List Expr} {pos : Pos} {R : List Dat → MM → Prop} (h : ∀ p, M p = none → ARX X T Γ (M.set p (.md [])) es fun ds M' => R (.ptr p :: ds) M') (hs : starEach (.Dict [] [] pos :: es) X.env = (false, eval (.Dict [] [] pos) X.env) :: starEach es X.env := by rfl) : ARX X T Γ M (.Dict [] [] pos :: es) R :=
  arx_cons rx_dict (fun d M' ⟨p, hp, e1, e2⟩ => by subst e1 e2; exact h p hp) hs
theorem atI_lastI {ns : List Int} {x : Int} : atI (intsD (ns ++ [x])) (-1) = some (.int x) := by
  have : intsD (ns ++ [x]) = intsD ns ++ [.int x] := by simp [intsD]
  rw [this]
  exact atI_last _ _
theorem intsD_snoc {ns : List Int} {x : Int} : intsD ns ++ [Dat.int x] = intsD (ns ++ [x]) := by simp [intsD]
section
variable {Pg : Program} {w : World} {K : PySem.W.Frag} {mg : Str → Option Value} {base : Heap} {T : TL}
abbrev pLBeat : PtD := fun ds M R => ∃ late m xs g, ds = [.bl late, .int m, .lst (intsD xs), .int g] ∧ m ≤ 1000 ∧ -1000 ≤ m ∧ xs.length ≤ 100 ∧ R (.tup [.lst (intsD (beat late m xs g).1), .lst (intsD (beat late m xs g).2)]) M
theorem ok_lbeat (G : Wd K mg) (F : FnT K "_law_beat" "_law_beat" s__law_beat (He.ga K "_law_beat")) : FnR Pg w K mg base CX0 1 (He.ga K "_law_beat") (spD K T pLBeat) := by
  obtain ⟨fd, F⟩ := F
  refine fd_ok F sc__law_beat (F.bindsN fun _ _ _ _ _ _ us hl => match us, hl with | [_, _, _, _], _ => rfl) (fun ds M R h => by obtain ⟨_, _, _, _, rfl, _⟩ := h; rfl) fun cdv A outer s H E ds M R hr h => ?_
  obtain ⟨late, m, xs, g, rfl, m9, m0, hz, h⟩ := h
  have nd := sc__law_beat.nd
  refine hs_parR 4 5 rfl nd rfl rfl (by decide) rfl rfl (R := fun ds M' => ∃ p1 p2, M p1 = none ∧ (M.set p1 (.ml [])) p2 = none ∧ ds = [.ptr p1, .ptr p2] ∧ M' = (M.set p1 (.ml [])).set p2 (.ml [])) (arx_l fun p1 h1 => arx_l fun p2 h2 => arx_nil ⟨p1, p2, h1, h2, rfl, rfl⟩) ?_ (fun ds M' h => by obtain ⟨_, _, _, _, e, _⟩ := h; rw [e]; rfl)
  rintro da db M1 ⟨p1, p2, h1, h2, e, rfl⟩
  cases e
  have hne : p2 ≠ p1 := fun z => by rw [z, MM.set_same] at h2; cases h2
  have h2' : M p2 = none := by rw [MM.set_ne hne] at h2; exact h2
  have g1 : ∀ a b : MO, ((M.set p1 a).set p2 b) p1 = some a := fun a b => by rw [MM.set_ne (Ne.symm hne)]; exact MM.set_same
  have g2 : ∀ a b : MO, ((M.set p1 a).set p2 b) p2 = some b := fun a b => MM.set_same
  refine hs_for (ixLI (v 2)) (fun i Γ' M' => ∃ ys cs gv a b, Γ' = [some (.bl late), some (.int m), some (.lst (intsD xs)), some (.int gv), some (.ptr p1), some (.ptr p2), a, b] ∧ M' = (M.set p1 (.ml (intsD ys))).set p2 (.ml (intsD cs)) ∧ ys.length = i ∧ cs.length = i ∧
    ys ++ (beat late m (xs.drop i) gv).1 = (beat late m xs g).1 ∧ cs ++ (beat late m (xs.drop i) gv).2 = (beat late m xs g).2) ⟨[], [], g, _, _, rfl, rfl, rfl, rfl, rfl, rfl⟩ ?_ ?_ rfl PassesOwn.never
  · rintro i Γ' M' hi ⟨ys, cs, gv, a, b, rfl, rfl, e1, e2, e3, e4⟩
    refine ⟨_, _, gn 6 nd, ?_⟩
    have ed : xs.drop i = xs.getD i 0 :: xs.drop (i + 1) := by rw [List.drop_eq_getElem_cons hi]; simp [List.getD_eq_getElem?_getD, hi]
    rw [ed] at e3 e4
    generalize xs.getD i 0 = x at e3 e4 ⊢
    refine set_ 7 nd (dx_add (v 6) (v 3)) ?_
    refine hs_expr (dx_append (q := p2) (ds := intsD cs) (d := .int (if m ≤ x + gv then 1 else 0)) (v 5) (DX.cast (dx_intB G.n_int (dx_ge (v 7) (v 1))) (congrArg Dat.int ?_) rfl) (g2 _ _) (g2 _ _) ?_) ?_
    · by_cases hq : m ≤ x + gv <;> simp [hq]
    · rw [ints_len]; omega
    rw [MM.set_set, intsD_snoc]
    generalize hc : (if m ≤ x + gv then (1 : Int) else 0) = c
    have hc2 : 0 ≤ c ∧ c ≤ 1 := by rw [← hc]; split <;> decide
    refine hs_expr (dx_append (q := p1) (ds := intsD ys) (d := .int (x + gv - c * m)) (v 4) (DX.cast (dx_sub (v 7) (dx_mul (v 1) (dx_ixM (v 5) (dx_neg dx_int) (g2 _ _) atI_lastI) (.inl ⟨by omega, by omega⟩))) (congrArg Dat.int (by rw [Int.mul_comm m c])) rfl) (g1 _ _) (g1 _ _) ?_) ?_
    · rw [ints_len]; omega
    rw [MM.set_comm (p := p2) (q := p1) hne, MM.set_set, intsD_snoc]
    refine set_ 3 nd (d := .int (if late then x else x + gv - c * m)) (M1 := (M.set p1 (.ml (intsD (ys ++ [x + gv - c * m])))).set p2 (.ml (intsD (cs ++ [c])))) (dx_if (bb := late) (tx_val (v 0)) (fun hb => ?_) fun hb => ?_) ?_
    · rw [hb]; exact v 6
    · rw [hb]; exact dx_ixM (v 4) (dx_neg dx_int) (g1 _ _) atI_lastI
    · refine hs_nil ⟨ys ++ [x + gv - c * m], cs ++ [c], _, some (.int x), some (.int (x + gv)), rfl, rfl, by simp [e1], by simp [e2], ?_, ?_⟩
      · rw [beat, hc] at e3; simpa using e3
      · rw [beat, hc] at e4; simpa using e4
  · rintro Γ' M' ⟨ys, cs, gv, a, b, rfl, rfl, e1, e2, e3, e4⟩
    rw [List.drop_length, beat, List.append_nil] at e3 e4
    subst e3 e4
    refine hs_fz 5 (g2 _ _) rfl rfl (del2 (by rw [MM.set_ne hne]; exact h2')) (hs_fz 4 (q := p1) (mo := .ml (intsD (beat late m xs g).1)) MM.set_same rfl rfl (del2 h1) ?_)
    exact hs_ret (tup2 (v 4) (v 5)) h
abbrev pUndone : PtD := fun ds M R => ∃ late m xs g, ds = [.bl late, .int m, .lst (intsD xs), .int g] ∧ xs.length ≤ 100 ∧ R (.lst (intsD (undo late m xs g))) M
theorem ok_undone (G : Wd K mg) (F : FnT K "_law_undone" "_law_undone" s__law_undone (He.ga K "_law_undone")) : FnR Pg w K mg base CX0 1 (He.ga K "_law_undone") (spD K T pUndone) := by
  obtain ⟨fd, F⟩ := F
  refine fd_ok F sc__law_undone (F.bindsN fun _ _ _ _ _ _ us hl => match us, hl with | [_, _, _, _], _ => rfl) (fun ds M R h => by obtain ⟨_, _, _, _, rfl, _⟩ := h; rfl) fun cdv A outer s H E ds M R hr h => ?_
  obtain ⟨late, m, xs, g, rfl, hz, h⟩ := h
  have nd := sc__law_undone.nd
  refine hs_setR 4 nd rfl (.inl rfl) (rx_lst ax_nil (by simp)) ?_
  rintro dd M1 ⟨p1, h1, rfl, rfl⟩
  refine hs_for (ixLI (v 2)) (fun i Γ' M' => ∃ ys gv a, Γ' = [some (.bl late), some (.int m), some (.lst (intsD xs)), some (.int gv), some (.ptr p1), a] ∧ M' = M.set p1 (.ml (intsD ys)) ∧ ys.length = i ∧ ys ++ undo late m (xs.drop i) gv = undo late m xs g) ⟨[], g, _, rfl, rfl, rfl, rfl⟩ ?_ ?_ rfl PassesOwn.never
  · rintro i Γ' M' hi ⟨ys, gv, a, rfl, rfl, e1, e3⟩
    refine ⟨_, _, gn 5 nd, ?_⟩
    have ed : xs.drop i = xs.getD i 0 :: xs.drop (i + 1) := by rw [List.drop_eq_getElem_cons hi]; simp [List.getD_eq_getElem?_getD, hi]
    rw [ed] at e3
    generalize xs.getD i 0 = x at e3 ⊢
    generalize hy : (if gv ≤ x then x - gv else x - gv + m) = y
    refine hs_expr (dx_append (q := p1) (ds := intsD ys) (M2 := M.set p1 (.ml (intsD ys))) (d := .int y) (v 4) (dx_if (bb := decide (gv ≤ x)) (tx_ge (v 5) (v 3)) (fun hb => ?_) fun hb => ?_) MM.set_same MM.set_same ?_) ?_
    · rw [← hy, if_pos (of_decide_eq_true hb)]; exact dx_sub (v 5) (v 3)
    · rw [← hy, if_neg (of_decide_eq_false hb)]; exact dx_add (dx_sub (v 5) (v 3)) (v 1)
    · rw [ints_len]; omega
    rw [MM.set_set, intsD_snoc]
    refine set_ 3 nd (d := .int (if late then y else x)) (M1 := M.set p1 (.ml (intsD (ys ++ [y])))) (dx_if (bb := late) (tx_val (v 0)) (fun hb => ?_) fun hb => ?_) ?_
    · rw [hb]; exact dx_ixM (v 4) (dx_neg dx_int) MM.set_same atI_lastI
    · rw [hb]; exact v 5
    · refine hs_nil ⟨ys ++ [y], _, some (.int x), rfl, rfl, by simp [e1], ?_⟩
      rw [undo, hy] at e3; simpa using e3
  · rintro Γ' M' ⟨ys, gv, a, rfl, rfl, e1, e3⟩
    rw [List.drop_length, undo, List.append_nil] at e3
    subst e3
    exact hs_fz 4 (q := p1) (mo := .ml (intsD (undo late m xs g))) MM.set_same rfl rfl (del2 h1) (hs_ret (v 4) h)
end
end Tx
end
section
set_option autoImplicit false
namespace Tx
open PySem PySem.Spec PyProof.Rows L2 Da Mi StX
def plD (late : Bool) (wide : Int) (row some_ : List Int) : Dat := .tup [.bl late, .int wide, .lst (intsD row), .lst (intsD some_)]
/-- the walk's entries: forward, back -/
def fwE (late : Bool) (m : Int) (row st : List Int) (l : Nat) : List (Int × Dat) := (List.range l).map fun (t : Nat) => (((t + 1 : Nat) : Int), .tup [.lst (intsD (fw late m row st (t + 1))), .lst (intsD (beat late m (fw late m row st t) (num row t)).2)])
def bwE (late : Bool) (m : Int) (row st : List Int) (l : Nat) : List (Int × Dat) := (List.range l).map fun (j : Nat) => (-(j : Int), .tup [.lst (intsD (bw late m row st j)), .lst (intsD (bc late m row st j))])
theorem lookup_app_none {k : Int} {a b : List (Int × Dat)} (h : a.lookup k = none) : (a ++ b).lookup k = b.lookup k := by
  induction a with
  | nil => rfl
  | cons p r ih =>
    rw [List.lookup_cons] at h
    rw [List.cons_append, List.lookup_cons]
    cases q : k == p.1 with
    | true => rw [q] at h; cases h
    | false => rw [q] at h; exact ih h
theorem lookup_app_some {k : Int} {d : Dat} {a b : List (Int × Dat)} (h : a.lookup k = some d) : (a ++ b).lookup k = some d := by
  induction a with
  | nil => cases h
  | cons p r ih =>
    rw [List.lookup_cons] at h
    rw [List.cons_append, List.lookup_cons]
    cases q : k == p.1 with
    | true => rw [q] at h; exact h
    | false => rw [q] at h; exact ih h
theorem lookup_none {k : Int} : ∀ {a : List (Int × Dat)}, (∀ p ∈ a, p.1 ≠ k) → a.lookup k = none
  | [], _ => rfl
  | p :: r, h => by
    rw [List.lookup_cons, show (k == p.1) = false by simp; exact fun z => h p List.mem_cons_self z.symm]
    exact lookup_none fun q hq => h q (List.mem_cons_of_mem _ hq)
theorem lookup_map {f : Nat → Int} {g : Nat → Dat} (inj : ∀ i j, f i = f j → i = j) : ∀ {n i : Nat}, i < n → ((List.range n).map fun t => (f t, g t)).lookup (f i) = some (g i)
  | 0, i, h => by omega
  | n + 1, i, h => by
    rw [List.range_succ, List.map_append]
    by_cases hi : i < n
    · exact lookup_app_some (lookup_map inj hi)
    · have e : i = n := by omega
      subst e
      rw [lookup_app_none (lookup_none fun p hp => ?_)]
      · simp
      · obtain ⟨t, ht, rfl⟩ := List.mem_map.mp hp
        intro z
        have := inj _ _ z
        have := List.mem_range.mp ht
        omega
section
variable {Pg : Program} {w : World} {K : PySem.W.Frag} {mg : Str → Option Value} {base : Heap} {T : TL}
theorem atI_num {row : List Int} (h : row ≠ []) (i : Int) : atI (intsD row) (i % row.length) = some (.int (num row i)) := atI_mod h i
abbrev pWalk : PtD := fun ds M R => ∃ late m row st f l, ds = [plD late m row st, .int (1 - (f : Nat)), .int (l : Nat)] ∧ m ≤ 1000 ∧ -1000 ≤ m ∧ row ≠ [] ∧ st.length ≤ 100 ∧ f ≤ 100 ∧ l ≤ 100 ∧ R (.dic (fwE late m row st l ++ bwE late m row st f)) M
theorem ok_walk (G : Wd K mg) (F : FnT K "_law_walk" "_law_walk" s__law_walk (He.ga K "_law_walk")) (F1 : FnR Pg w K mg base CX0 1 (He.ga K "_law_beat") (spD K T pLBeat)) (F2 : FnR Pg w K mg base CX0 1 (He.ga K "_law_undone") (spD K T pUndone)) : FnR Pg w K mg base CX0 2 (He.ga K "_law_walk") (spD K T pWalk) := by
  obtain ⟨fd, F⟩ := F
  refine fd_ok F sc__law_walk (F.bindsN fun _ _ _ _ _ _ us hl => match us, hl with | [_, _, _], _ => rfl) (fun ds M R h => by obtain ⟨_, _, _, _, _, _, rfl, _⟩ := h; rfl) fun cdv A outer s H E ds M R hr h => ?_
  obtain ⟨late, m, row, st, f, l, rfl, m9, m0, hr0, hz, hf, hl, h⟩ := h
  have nd := sc__law_walk.nd
  have hrp := List.length_pos_iff.mpr hr0
  have hu : ∀ (X : Cx), Room 1 X.A → X.A.units + 1 < cLine := fun X r => by have := r.units; omega
  refine hs_asg (v 0) (gx_tup rfl (gxs_cons (gn 3 nd) (gxs_cons (gn 4 nd) (gxs_cons (gn 5 nd) (gxs_cons (gn 6 nd) gxs_nil))))) ?_
  refine hs_parR 7 8 rfl nd rfl rfl (by decide) rfl rfl (R := fun ds M' => ∃ p, M p = none ∧ ds = [.lst (intsD st), .ptr p] ∧ M' = M.set p (.md [])) (arx_d (dx_list G.n_list (v 6) rfl) (arx_dict fun p hp => arx_nil ⟨p, hp, rfl, rfl⟩)) ?_ (fun ds M' h => by obtain ⟨_, _, e, _⟩ := h; rw [e]; rfl)
  rintro da db M1 ⟨p, hp, e, rfl⟩
  cases e
  have fkey : ∀ i, (fwE late m row st i).lookup ((i + 1 : Nat) : Int) = none := fun i => lookup_none fun q hq => by
    obtain ⟨t, ht, rfl⟩ := List.mem_map.mp hq
    have := List.mem_range.mp ht
    show ((t + 1 : Nat) : Int) ≠ ((i + 1 : Nat) : Int)
    omega
  refine hs_for (ixR2 (n := l) G.n_range dx_int (dx_add (v 2) dx_int) (by omega) (by decide) (by decide) (by omega)) (fun i Γ' M' => (∃ a, Γ' = [some (plD late m row st), some (.int (1 - (f : Nat))), some (.int (l : Nat)), some (.bl late), some (.int m), some (.lst (intsD row)), some (.lst (intsD st)), some (.lst (intsD (fw late m row st i))), some (.ptr p), a, none]) ∧ M' = M.set p (.md (fwE late m row st i))) ⟨⟨_, rfl⟩, rfl⟩ ?_ ?_ rfl PassesOwn.never
  · rintro i Γ' M' hi ⟨⟨a, rfl⟩, rfl⟩
    refine ⟨_, _, gn 9 nd, ?_⟩
    have ei : (1 : Int) + (i : Nat) = ((i + 1 : Nat) : Int) := by omega
    rw [ei]
    have hn : ((i + 1 : Nat) : Int) - 1 = (i : Nat) := by omega
    refine hs_dput (kvs := fwE late m row st i) (q := p) (hu _ (hr.mono (by decide))) (dx_call F1 (hr.mono (by decide)) G.g__law_beat G.k__law_beat (ax_cons (v 3) (ax_cons (v 4) (ax_cons (v 7) (ax_cons (DX.cast (dx_ix (v 5) (dx_mod (dx_intI G.n_int (dx_sub (v 9) dx_int)) (dx_len G.n_len (v 5) rfl) (by rw [ints_len]; omega)) rfl (by rw [ints_len]; exact atI_num hr0 _)) (congrArg Dat.int (by rw [hn])) rfl) ax_nil)))) ⟨late, m, _, num row i, rfl, m9, m0, by rw [fw_len]; exact hz, rfl, rfl⟩) (v 8) (v 9) MM.set_same (fkey i) (by simp [fwE]; omega) ?_
    have ee : fwE late m row st i ++ [(((i + 1 : Nat) : Int), Dat.tup [.lst (intsD (beat late m (fw late m row st i) (num row i)).1), .lst (intsD (beat late m (fw late m row st i) (num row i)).2)])] = fwE late m row st (i + 1) := by
      unfold fwE
      rw [List.range_succ, List.map_append]
      rfl
    rw [MM.set_set, ee]
    refine set_ 7 nd (dx_ix (dx_dgetM (hu _ (hr.mono (by decide))) (v 8) (v 9) MM.set_same (d := Dat.tup [.lst (intsD (fw late m row st (i + 1))), .lst (intsD (beat late m (fw late m row st i) (num row i)).2)]) ?_) dx_int rfl rfl) (hs_nil ⟨⟨_, rfl⟩, rfl⟩)
    exact lookup_map (f := fun t => ((t + 1 : Nat) : Int)) (g := fun t => Dat.tup [.lst (intsD (fw late m row st (t + 1))), .lst (intsD (beat late m (fw late m row st t) (num row t)).2)]) (fun i j z => by omega) (Nat.lt_succ_self i)
  · rintro Γ' M' ⟨⟨a, rfl⟩, rfl⟩
    refine set_ 7 nd (dx_list G.n_list (v 6) rfl) ?_
    have bkey : ∀ i, (fwE late m row st l ++ bwE late m row st i).lookup (-(i : Nat) : Int) = none := fun i => lookup_none fun q hq => by
      rcases List.mem_append.mp hq with hq | hq
      · obtain ⟨t, ht, rfl⟩ := List.mem_map.mp hq
        show ((t + 1 : Nat) : Int) ≠ -(i : Int)
        omega
      · obtain ⟨t, ht, rfl⟩ := List.mem_map.mp hq
        have := List.mem_range.mp ht
        show -(t : Int) ≠ -(i : Int)
        omega
    refine hs_for (ixDn (n := f) G.n_range dx_int (dx_sub (v 1) dx_int) (dx_neg dx_int) (by omega) (by decide) (by decide) (by omega)) (fun i Γ' M' => (∃ a b, Γ' = [some (plD late m row st), some (.int (1 - (f : Nat))), some (.int (l : Nat)), some (.bl late), some (.int m), some (.lst (intsD row)), some (.lst (intsD st)), some (.lst (intsD (bw late m row st i))), some (.ptr p), a, b]) ∧ M' = M.set p (.md (fwE late m row st l ++ bwE late m row st i))) ⟨⟨_, _, rfl⟩, by rw [bwE]; simp⟩ ?_ ?_ rfl PassesOwn.never
    · rintro i Γ' M' hi ⟨⟨a, b, rfl⟩, rfl⟩
      refine ⟨_, _, gn 9 nd, ?_⟩
      rw [show (0 : Int) - (i : Nat) = -(i : Nat) by omega]
      have hix : ∀ {Γ : Gm} {M' : MM}, True := fun {_ _} => trivial
      refine set_ 10 nd (dx_call F2 (hr.mono (by decide)) G.g__law_undone G.k__law_undone (ax_cons (v 3) (ax_cons (v 4) (ax_cons (v 7) (ax_cons (dx_ix (v 5) (dx_mod (dx_intI G.n_int (dx_sub (v 9) dx_int)) (dx_len G.n_len (v 5) rfl) (by rw [ints_len]; omega)) rfl (by rw [ints_len]; exact atI_num hr0 _)) ax_nil)))) ⟨late, m, _, _, rfl, by rw [bw_len]; exact hz, rfl, rfl⟩) ?_
      refine hs_dput (kvs := fwE late m row st l ++ bwE late m row st i) (q := p) (hu _ (hr.mono (by decide))) (tup2 (v 7) (dx_ix (dx_call F1 (hr.mono (by decide)) G.g__law_beat G.k__law_beat (ax_cons (v 3) (ax_cons (v 4) (ax_cons (v 10) (ax_cons (dx_ix (v 5) (dx_mod (dx_intI G.n_int (dx_sub (v 9) dx_int)) (dx_len G.n_len (v 5) rfl) (by rw [ints_len]; omega)) rfl (by rw [ints_len]; exact atI_num hr0 _)) ax_nil)))) ⟨late, m, _, _, rfl, m9, m0, by rw [undo_len, bw_len]; exact hz, rfl, rfl⟩) dx_int rfl rfl)) (v 8) (v 9) MM.set_same (bkey i) (by simp [fwE, bwE]; omega) ?_
      rw [MM.set_set, List.append_assoc]
      refine set_ 7 nd (v 10) (hs_nil ⟨⟨_, _, rfl⟩, ?_⟩)
      congr 3
      unfold bwE
      rw [List.range_succ, List.map_append]
      rfl
    · rintro Γ' M' ⟨⟨a, b, rfl⟩, rfl⟩
      exact hs_fz 8 (q := p) (mo := .md (fwE late m row st l ++ bwE late m row st f)) MM.set_same rfl rfl (del2 hp) (hs_ret (v 8) h)
end
end Tx
end
section
set_option autoImplicit false
namespace Tx
open PySem PySem.Spec PyProof.Rows L2 Da Mi StX
def rowsL (rws : List (List Int)) : List Dat := rws.map fun r => .lst (intsD r)
def heldD (h : Hd) : Dat := .lst [.int h.wide, .lst (intsD h.row), .lst (intsD h.some_), .lst (rowsL h.kept), .int h.gone, .int h.total]
/-- the starts of the prompt chain, by the law -/
def slowS (m : Int) (row st : List Int) : List Int := (List.range st.length).map fun s => (fw true m row st s).getD s 0
def Pl.st (p : Pl) : List Int := if p.late then slowS p.wide p.row p.some_ else p.some_
def Pl.begun (p : Pl) : Hd := ⟨p.wide, p.row, p.st, (List.range (p.some_.length - 1)).map fun j => bc false p.wide p.row p.st j, 0, 0⟩
theorem st_len (p : Pl) : p.st.length = p.some_.length := by unfold Pl.st; split <;> simp [slowS]
theorem atI_rowsL {rws : List (List Int)} {i : Nat} (h : i < rws.length) : atI (rowsL rws) (i : Int) = some (.lst (intsD (rws.getD i []))) := by
  apply atI_nat
  simp [rowsL, List.getD_eq_getElem?_getD, h]
section
variable {Pg : Program} {w : World} {K : PySem.W.Frag} {mg : Str → Option Value} {base : Heap} {T : TL}
abbrev pBegun : PtD := fun ds M R => ∃ l : Pl, ds = [l.dat] ∧ l.Ok ∧ R (heldD l.begun) M
theorem ok_begun (G : Wd K mg) (F : FnT K "_law_begun" "_law_begun" s__law_begun (He.ga K "_law_begun")) (F1 : FnR Pg w K mg base CX0 2 (He.ga K "_law_walk") (spD K T pWalk)) : FnR Pg w K mg base CX0 3 (He.ga K "_law_begun") (spD K T pBegun) := by
  obtain ⟨fd, F⟩ := F
  refine fd_ok F sc__law_begun (F.bindsN fun _ _ _ _ _ _ us hl => match us, hl with | [_], _ => rfl) (fun ds M R h => by obtain ⟨_, rfl, _⟩ := h; rfl) fun cdv A outer s H E ds M R hr h => ?_
  obtain ⟨l, rfl, ok, h⟩ := h
  have nd := sc__law_begun.nd
  have w2 := ok.w2
  have w9 := ok.w9
  have s6 := ok.s6
  have s1 := ok.s1
  have r0 := ok.r0
  have hl0 := st_len l
  obtain ⟨late, wide, row, st⟩ := l
  replace w2 : 2 ≤ wide := w2
  replace w9 : wide ≤ 30 := w9
  replace s6 : st.length ≤ 6 := s6
  replace s1 : 1 ≤ st.length := s1
  replace r0 : row ≠ [] := r0
  have hu : ∀ (X : Cx), Room 1 X.A → X.A.units + 1 < cLine := fun X r => by have := r.units; omega
  show HS _ T (gm0 N__law_begun [.tup [.bl late, .int wide, .lst (intsD row), .lst (intsD st)]]) M _ _
  refine hs_asg (v 0) (gx_tup rfl (gxs_cons (gn 1 nd) (gxs_cons (gn 2 nd) (gxs_cons (gn 3 nd) (gxs_cons (gn 4 nd) gxs_nil))))) ?_
  -- from the starts on
  have rest : ∀ Γ a, Γ = [some (plD late wide row st), some (.bl late), some (.int wide), some (.lst (intsD row)), some (.lst (intsD (Pl.st ⟨late, wide, row, st⟩))), a, none, none, none] → HS (cxOf CX0 Pg w K mg base N__law_begun "_law_begun" (defScope s__law_begun) (He.ga K "_law_begun") cdv A outer s H E).nox T Γ M ((defBody s__law_begun).drop 2) (retR R) := by
    rintro Γ a rfl
    generalize hst : Pl.st ⟨late, wide, row, st⟩ = st' at hl0
    refine set_ 7 nd (dx_call F1 (hr.mono (by decide)) G.g__law_walk G.k__law_walk (ax_cons (dx_tup (ax_cons dx_bl (ax_cons (v 2) (ax_cons (v 3) (ax_cons (v 4) ax_nil)))) (by simp)) (ax_cons (dx_neg dx_int) (ax_cons dx_int ax_nil))) ⟨false, wide, row, st', 9, 0, rfl, by omega, by omega, r0, by rw [hl0]; show st.length ≤ 100; omega, by decide, by decide, rfl, rfl⟩) ?_
    refine hs_ret (DX.cast (dx_lst (ax_cons (v 2) (ax_cons (v 3) (ax_cons (v 4) (ax_cons (lcD (n := st.length - 1) (j := 8) (fun j => .lst (intsD (bc false wide row st' j))) rfl nd (ixR G.n_range (DX.cast (dx_sub (dx_len G.n_len (v 4) rfl) dx_int) (congrArg Dat.int (by rw [ints_len, hl0]; show (st.length : Int) - 1 = _; omega)) rfl) (by omega)) (blkOk_by (N := N__law_begun) (sc := defScope s__law_begun) (by decide +kernel)) (fun _ _ _ _ _ => pg_name nd rfl (.inl rfl)) (by omega)
      fun _ _ _ _ _ j hj => dx_ix (dx_dget (hu _ (hr.mono (by decide))) (v 7) (dx_sub dx_int (v 8)) (d := .tup [.lst (intsD (bw false wide row st' j)), .lst (intsD (bc false wide row st' j))]) ?_) dx_int rfl rfl) (ax_cons dx_int (ax_cons dx_int ax_nil)))))) (by simp)) (d' := heldD (Pl.begun ⟨late, wide, row, st⟩)) ?_ rfl) h
    · rw [show (0 : Int) - (j : Nat) = -(j : Nat) by omega]
      exact lookup_map (f := fun t => -((t : Nat) : Int)) (g := fun t => Dat.tup [.lst (intsD (bw false wide row st' t)), .lst (intsD (bc false wide row st' t))]) (fun i j z => by omega) (show j < 9 by omega)
    · unfold heldD Pl.begun
      rw [hst]
      simp [rowsL, List.map_map, Function.comp_def]
  cases late with
  | false => exact hs_ifF (tx_val (v 1)) (rest _ _ rfl)
  | true =>
    refine hs_ifT (tx_val (v 1)) ?_
    refine set_ 5 nd (dx_call F1 (hr.mono (by decide)) G.g__law_walk G.k__law_walk (ax_cons (v 0) (ax_cons dx_int (ax_cons (DX.cast (dx_len G.n_len (v 4) rfl) (d' := .int (st.length : Nat)) (by rw [ints_len]) rfl) ax_nil))) ⟨true, wide, row, st, 1, st.length, rfl, by omega, by omega, r0, by omega, by decide, by omega, rfl, rfl⟩) ?_
    refine hs_setLc (n := st.length) (j := 6) (i := 4) (fun _ => M) (fun s => .int ((fw true wide row st s).getD s 0)) rfl nd rfl rfl (sw_true rfl rfl rfl (by decide +kernel)) (ixR G.n_range (DX.cast (dx_len G.n_len (v 4) rfl) (d' := .int (st.length : Nat)) (by rw [ints_len]) rfl) (by omega)) rfl (blkOk_by (N := N__law_begun) (sc := defScope s__law_begun) (by decide +kernel)) (fun _ _ _ _ _ => pg_name nd rfl (.inl rfl)) rfl (by omega)
      (fun _ _ _ _ _ i hi => dx_ix (d1 := .lst (intsD (fw true wide row st i))) (dx_ix (d1 := .tup [.lst (intsD (fw true wide row st i)), if i = 0 then .lst (intsD (bc true wide row st 0)) else .lst (intsD (beat true wide (fw true wide row st (i - 1)) (num row ((i - 1 : Nat) : Int))).2)]) (dx_dget (hu _ (hr.mono (by decide))) (v 5) (v 6) ?_) dx_int rfl rfl) (v 6) rfl (atI_ints (atI_pos (by rw [fw_len]; exact hi)))) (hs_nil (rest _ _ (by rw [intsD_map]; rfl)))
    cases i with
    | zero =>
      rw [lookup_app_none (lookup_none fun q hq => ?_)]
      · rfl
      · obtain ⟨t, ht, rfl⟩ := List.mem_map.mp hq
        show ((t + 1 : Nat) : Int) ≠ ((0 : Nat) : Int)
        omega
    | succ k =>
      refine lookup_app_some ?_
      rw [if_neg (by omega)]
      exact lookup_map (f := fun t => ((t + 1 : Nat) : Int)) (g := fun t => Dat.tup [.lst (intsD (fw true wide row st (t + 1))), .lst (intsD (beat true wide (fw true wide row st t) (num row t)).2)]) (fun i j z => by omega) (show k < st.length by omega)
abbrev pGone : PtD := fun ds M R => ∃ (h : Hd) (g : Int), ds = [heldD h, .int g] ∧ h.Ok ∧ 0 ≤ g ∧ g ≤ h.wide - 1 ∧ R (.tup [heldD (h.one g).1, .int (h.one g).2]) M
theorem ok_gone (G : Wd K mg) (F : FnT K "_law_gone" "_law_gone" s__law_gone (He.ga K "_law_gone")) (F1 : FnR Pg w K mg base CX0 1 (He.ga K "_law_beat") (spD K T pLBeat)) (F2 : FnR Pg w K mg base CX0 1 (He.ga K "_law_chosen") (spD K T pBin)) : FnR Pg w K mg base CX0 2 (He.ga K "_law_gone") (spD K T pGone) := by
  obtain ⟨fd, F⟩ := F
  refine fd_ok F sc__law_gone (F.bindsN fun _ _ _ _ _ _ us hl => match us, hl with | [_, _], _ => rfl) (fun ds M R h => by obtain ⟨_, _, rfl, _⟩ := h; rfl) fun cdv A outer s H E ds M R hr h => ?_
  obtain ⟨hd, g, rfl, ok, g0, g1, h⟩ := h
  have nd := sc__law_gone.nd
  have w2 := ok.w2
  have w9 := ok.w9
  have s6 := ok.s6
  have s1 := ok.s1
  obtain ⟨_, hc⟩ := Hd.one_ok ok g0 g1
  obtain ⟨wide, row, st, kept, gone, total⟩ := hd
  replace w2 : 2 ≤ wide := w2
  replace w9 : wide ≤ 30 := w9
  replace s6 : st.length ≤ 6 := s6
  replace s1 : 1 ≤ st.length := s1
  replace hc : Carr st.length st.length ((beat false wide st g).2 :: kept) := hc
  show HS _ T (gm0 N__law_gone [.lst [.int wide, .lst (intsD row), .lst (intsD st), .lst (rowsL kept), .int gone, .int total], .int g]) M _ _
  refine hs_asg (v 0) (gx_unl rfl (gxs_cons (gn 2 nd) (gxs_cons (gn 3 nd) (gxs_cons (gn 4 nd) (gxs_cons (gn 5 nd) (gxs_cons (gn 6 nd) (gxs_cons (gn 7 nd) gxs_nil))))))) ?_
  refine hs_asg (dx_call F1 (hr.mono (by decide)) G.g__law_beat G.k__law_beat (ax_cons dx_bl (ax_cons (v 2) (ax_cons (v 4) (ax_cons (v 1) ax_nil)))) ⟨false, wide, st, g, rfl, by omega, by omega, by omega, rfl, rfl⟩) (gx_tup rfl (gxs_cons (gn 8 nd) (gxs_cons (gn 9 nd) gxs_nil))) ?_
  generalize hbt : (beat false wide st g).1 = new at h
  generalize hcr : (beat false wide st g).2 = car at hc
  have hlc := hc.1
  refine hs_par 10 11 rfl nd rfl rfl (by decide) rfl rfl (ax_cons (DX.cast (dx_cat (dx_lst (ax_cons (v 9) ax_nil) (by simp)) (v 5) ?_) (d' := .lst (rowsL (car :: kept))) (by rw [rowsL]; simp [rowsL]) rfl) (ax_cons dx_int ax_nil)) ?_
  · simp [rowsL]; simp at hlc; omega
  let inner : Nat → Nat → Int := fun s b => binI s b * (1 - 2 * ((b : Int) % 2)) * ((car :: kept).getD b []).getD s 0
  refine hs_for (ixR (n := st.length) G.n_range (DX.cast (dx_len G.n_len (v 4) rfl) (d' := .int (st.length : Nat)) (by rw [ints_len]) rfl) (by omega)) (fun i Γ' M' => M' = M ∧ ∃ a b, Γ' = [some (heldD ⟨wide, row, st, kept, gone, total⟩), some (.int g), some (.int wide), some (.lst (intsD row)), some (.lst (intsD st)), some (.lst (rowsL kept)), some (.int gone), some (.int total), some (.lst (intsD new)), some (.lst (intsD car)), some (.lst (rowsL (car :: kept))), some (.int ((List.range i).map fun s => ((List.range (s + 1)).map fun b => inner s b).sum).sum), a, b]) ⟨rfl, none, none, ?_⟩ ?_ ?_ rfl PassesOwn.never
  · rfl
  · rintro i Γ' M' hi ⟨rfl, a, b, rfl⟩
    refine ⟨_, _, gn 12 nd, ?_⟩
    refine hs_for (ixR (n := i + 1) G.n_range (DX.cast (dx_add (v 12) dx_int) (congrArg Dat.int (by omega)) rfl) (by omega)) (fun k Γ' M2 => M2 = M' ∧ ∃ b, Γ' = [some (heldD ⟨wide, row, st, kept, gone, total⟩), some (.int g), some (.int wide), some (.lst (intsD row)), some (.lst (intsD st)), some (.lst (rowsL kept)), some (.int gone), some (.int total), some (.lst (intsD new)), some (.lst (intsD car)), some (.lst (rowsL (car :: kept))), some (.int (((List.range i).map fun s => ((List.range (s + 1)).map fun b => inner s b).sum).sum + ((List.range k).map fun b => inner i b).sum)), some (.int i), b]) ⟨rfl, b, ?_⟩ ?_ ?_ rfl PassesOwn.never
    · show _ = [_, _, _, _, _, _, _, _, _, _, _, some (Dat.int (_ + 0)), _, _]
      rw [Int.add_zero]; rfl
    · rintro k Γ' M2 hk ⟨rfl, b', rfl⟩
      refine ⟨_, _, gn 13 nd, ?_⟩
      have hg := hc.get (i := k) (j := i) (by omega) hi
      refine set_ 11 nd (dx_add (v 11) (dx_mul (dx_mul (dx_call F2 (hr.mono (by decide)) G.g__law_chosen G.k__law_chosen (ax_cons (v 12) (ax_cons (v 13) ax_nil)) ⟨_, k, rfl, by omega, by omega, by omega, rfl, rfl⟩) (dx_sub dx_int (dx_mul dx_int (dx_mod (dx_intI G.n_int (v 13)) dx_int (by decide)) (.inl ⟨by decide, by decide⟩))) (.inr ⟨by omega, by omega⟩)) (dx_ix (d1 := .lst (intsD ((car :: kept).getD k []))) (dx_ix (v 10) (v 13) rfl (atI_rowsL (by rw [hc.1]; omega))) (v 12) rfl (atI_ints (atI_pos (by rw [hg.1]; exact hi)))) (.inr ⟨by omega, by omega⟩))) (hs_nil ⟨rfl, some (.int k), ?_⟩)
      rw [sum_range_succ (fun b => inner i b) k, ← Int.add_assoc]
      rfl
    · rintro Γ' M2 ⟨rfl, b', rfl⟩
      exact hs_nil ⟨rfl, some (.int i), b', by rw [sum_range_succ (fun s => ((List.range (s + 1)).map fun b => inner s b).sum) i]⟩
  · rintro Γ' M' ⟨rfl, a, b, rfl⟩
    have hout : ((List.range st.length).map fun s => ((List.range (s + 1)).map fun b => inner s b).sum).sum = gave st.length (car :: kept) := rfl
    rw [hout]
    refine hs_ret (DX.cast (tup2 (dx_lst (ax_cons (v 2) (ax_cons (v 3) (ax_cons (v 8) (ax_cons (dx_slL (v 10) ox_none (ox_some (dx_sub (dx_len G.n_len (v 4) rfl) dx_int))) (ax_cons (dx_add (v 6) dx_int) (ax_cons (dx_add (v 7) (v 11)) ax_nil)))))) (by simp)) (v 11)) (d' := .tup [heldD (Hd.one ⟨wide, row, st, kept, gone, total⟩ g).1, .int (Hd.one ⟨wide, row, st, kept, gone, total⟩ g).2]) ?_ rfl) ?_
    · rw [ints_len, show ((st.length : Nat) : Int) - 1 = ((st.length - 1 : Nat) : Int) by omega, cutD_take, rowsL, ← List.map_take]
      unfold heldD Hd.one
      simp only
      rw [hbt, hcr]
      rfl
    · exact h
abbrev pSteps : PtD := fun ds M R => ∃ (h : Hd) (k : Nat), ds = [heldD h, .int k] ∧ h.Ok ∧ k ≤ 100 ∧ R (.tup [heldD (h.steps k).1, .lst (intsD (h.steps k).2)]) M
theorem ok_lsteps (G : Wd K mg) (F : FnT K "_law_steps" "_law_steps" s__law_steps (He.ga K "_law_steps")) (F1 : FnR Pg w K mg base CX0 2 (He.ga K "_law_gone") (spD K T pGone)) : FnR Pg w K mg base CX0 3 (He.ga K "_law_steps") (spD K T pSteps) := by
  obtain ⟨fd, F⟩ := F
  refine fd_ok F sc__law_steps (F.bindsN fun _ _ _ _ _ _ us hl => match us, hl with | [_, _], _ => rfl) (fun ds M R h => by obtain ⟨_, _, rfl, _⟩ := h; rfl) fun cdv A outer s H E ds M R hr h => ?_
  obtain ⟨hd, k, rfl, ok, hk, h⟩ := h
  have nd := sc__law_steps.nd
  refine hs_setR 2 nd rfl (.inl rfl) (rx_lst ax_nil (by simp)) ?_
  rintro dd M1 ⟨p, hp, rfl, rfl⟩
  refine hs_for (ixR (n := k) G.n_range (v 1) (by omega)) (fun i Γ' M' => (∃ a b, Γ' = [some (heldD (hd.steps i).1), some (.int (k : Nat)), some (.ptr p), a, b]) ∧ M' = M.set p (.ml (intsD (hd.steps i).2))) ⟨⟨_, _, rfl⟩, rfl⟩ ?_ ?_ rfl PassesOwn.never
  · rintro i Γ' M' hi ⟨⟨a, b, rfl⟩, rfl⟩
    obtain ⟨oki, hli⟩ := Hd.steps_ok ok i
    refine ⟨_, _, gn 3 nd, ?_⟩
    have e1 : hd.steps (i + 1) = ((((hd.steps i).1.one ((hd.steps i).1.row.getD 0 0)).1).turn, (hd.steps i).2 ++ [((hd.steps i).1.one ((hd.steps i).1.row.getD 0 0)).2]) := rfl
    rw [e1]
    generalize (hd.steps i).2 = outs at hli
    generalize hgi : (hd.steps i).1 = hi' at oki
    have hrl := List.length_pos_iff.mpr oki.r0
    have hx := oki.ri _ (Mi.getD_mem hrl)
    have hr9 := oki.r9
    refine hs_asg (dx_call F1 (hr.mono (by decide)) G.g__law_gone G.k__law_gone (ax_cons (v 0) (ax_cons (dx_ix (d1 := .lst (intsD hi'.row)) (dx_ix (v 0) dx_int rfl rfl) dx_int rfl (atI_ints (atI_pos (i := 0) hrl))) ax_nil)) ⟨hi', _, rfl, oki, hx.1, hx.2, rfl, rfl⟩) (gx_tup rfl (gxs_cons (gn 0 nd) (gxs_cons (gn 4 nd) gxs_nil))) ?_
    generalize hi'.row.getD 0 0 = g at hx
    have hrow : (hi'.one g).1.row = hi'.row := rfl
    generalize (hi'.one g).2 = out
    generalize (hi'.one g).1 = h2 at hrow
    refine set_ 0 nd (d := heldD h2.turn) (DX.cast (dx_cat (ds2 := [.lst (intsD h2.some_), .lst (rowsL h2.kept), .int h2.gone, .int h2.total]) (dx_lst (ax_cons (dx_ix (v 0) dx_int rfl rfl) (ax_cons (dx_cat (dx_slL (dx_ix (v 0) dx_int rfl (d := .lst (intsD h2.row)) rfl) (ox_some dx_int) ox_none) (dx_slL (dx_ix (v 0) dx_int rfl (d := .lst (intsD h2.row)) rfl) ox_none (ox_some dx_int)) ?_) ax_nil)) (by simp)) (DX.cast (dx_slL (v 0) (ox_some dx_int) ox_none) ?_ rfl) ?_) ?_ rfl) ?_
    · rw [show (1 : Int) = ((1 : Nat) : Int) from rfl, cutD_drop, cutD_take, intsD_take, intsD_drop, ints_len, ints_len, hrow]
      simp; omega
    · rw [show (2 : Int) = ((2 : Nat) : Int) from rfl, cutD_drop]; rfl
    · simp
    · rw [show (1 : Int) = ((1 : Nat) : Int) from rfl, cutD_drop, cutD_take, intsD_take, intsD_drop]
      unfold heldD Hd.turn
      simp [intsD]
    · refine hs_expr (dx_append (q := p) (ds := intsD outs) (v 2) (v 4) MM.set_same MM.set_same (by rw [ints_len]; omega)) (hs_nil ⟨⟨_, _, rfl⟩, by rw [MM.set_set, intsD_snoc]⟩)
  · rintro Γ' M' ⟨⟨a, b, rfl⟩, rfl⟩
    exact hs_fz 2 (q := p) (mo := .ml (intsD (hd.steps k).2)) MM.set_same rfl rfl (del2 hp) (hs_ret (tup2 (v 0) (v 2)) h)
end
end Tx
end
section
set_option autoImplicit false
namespace Tx
open PySem PySem.Spec PyProof.Rows L2 Da Mi StX NdefX
/-- the given numbers led in -/
def Bs.fed (m : Int) (n : Nat) (s : Bs) (nums : List Int) : Nat → Bs × List Int
  | 0 => (s, [])
  | t + 1 =>
    let p := s.fed m n nums t
    let q := p.1.go m n (nums.getD t 0) s.cyc
    (q.1, p.2 ++ [q.2])
def Bs.led (K : PySem.W.Frag) (m : Int) (n : Nat) (s : Bs) (nums : List Int) : Bs := s.deed K (s.fed m n nums nums.length).1 "led"
theorem fed_ok {m : Int} {n : Nat} {s : Bs} (ok : s.Ok m n) {nums : List Int} (hn : In m nums) : ∀ t, t ≤ nums.length → (s.fed m n nums t).1.Ok m n ∧ (s.fed m n nums t).1.words = s.words ∧ (s.fed m n nums t).1.ahead = s.ahead ∧ (s.fed m n nums t).2.length = t ∧ (s.fed m n nums t).1.cyc = s.cyc ∧ (s.fed m n nums t).1.gone = s.gone + t
  | 0, _ => ⟨ok, rfl, rfl, rfl, rfl, by show s.gone = s.gone + (0 : Nat); omega⟩
  | t + 1, ht => by
    obtain ⟨a, b, c, d, e, f⟩ := fed_ok ok hn t (by omega)
    obtain ⟨g0, g1⟩ := hn _ (Mi.getD_mem (ns := nums) (i := t) (by omega))
    exact ⟨go_ok a g0 g1 ok.cy, b, c, by rw [Bs.fed]; simp [d], rfl, by show (s.fed m n nums t).1.gone + 1 = _; rw [f]; omega⟩
section
variable {Pg : Program} {w : World} {K : PySem.W.Frag} {mg : Str → Option Value} {base : Heap} {T : TL}
abbrev pTold (Pg : Program) (w : World) (mg : Str → Option Value) (base : Heap) (T : TL) (K : PySem.W.Frag) : PtA := fun A h H ds M R => ∃ (q : Addr) (m : Int) (n : Nat) (s : Bs) (f : Addr) (F : NF) (body : Expr) (fr : List Str) (ws : List V) (wd : List Dat) (Pl : List Dat → PtD) (g : Int),
  ds = [.ptr q, .clo f F body ws wd] ∧ CloSt A h H F fr ws ∧ LmOk Pg w K mg base T 2 f F body fr Pl ∧ M q = some (ben K m n s) ∧ s.Ok m n ∧ Pl wd [.int (s.gone + 1)] M (Is (.int g) M) ∧ 0 ≤ g ∧ g ≤ m - 1 ∧ R (.int g) M
theorem ok_told_by (G : Wd K mg) (F : FnT K "told_by" "Bench.told_by" s_Bench_told_by (He.ma K (He.ga K "Bench") "told_by")) (F1 : FnR Pg w K mg base CX0 2 (He.ga K "is_between") (spD K T (pBtw K))) :
    FnL Pg w K mg base T 3 (He.ma K (He.ga K "Bench") "told_by") (pTold Pg w mg base T K) := by
  obtain ⟨fd, F⟩ := F
  refine fdA_ok F sc_Bench_told_by (F.bindsN fun _ _ _ _ _ _ us hl => match us, hl with | [_, _], _ => rfl) (fun A hh H ds M R h => by obtain ⟨_, _, _, _, _, _, _, _, _, _, _, _, rfl, _⟩ := h; rfl) fun cdv A outer st H E ds M R hr hA h => ?_
  obtain ⟨q, m, n, s, f, FF, body, fr, ws, wd, Pl, g, rfl, hC, hL, hq, ok, hP, g0, g1, h⟩ := h
  have nd := sc_Bench_told_by.nd
  have cl := G.c_Bench.cl
  have cs := G.c_Standing.cl
  refine set_ 2 nd (dx_add (dx_fld cs G.a_Standing_gone (dx_fldM cl G.a_Bench_standing (v 0) hq rfl) rfl) dx_int) ?_
  refine hs_try ?_
  refine set_ 3 nd (RX.toD (rx_callLam rfl hL hr hA hC 1 rfl (.inl rfl) rfl (ax_cons (v 2) ax_nil) hP)) ?_
  refine hs_ifF (tnot (b := true) (tx_val (dx_call F1 hr G.g_is_between G.k_is_between (ax_cons (v 3) (ax_cons dx_int (ax_cons (dx_sub (dx_fld (G.cC false).cl (G.aM false) (dx_fldM cl G.a_Bench_chain (v 0) hq rfl) rfl) dx_int) ax_nil))) ⟨_, _, _, rfl, .inl ⟨_, rfl, ?_, rfl⟩⟩))) (hs_nil (hs_ret (v 3) h))
  rw [decide_eq_true g0, decide_eq_true g1]; rfl
abbrev pLed (Pg : Program) (w : World) (mg : Str → Option Value) (base : Heap) (T : TL) (K : PySem.W.Frag) : PtA := fun A h H ds M R => ∃ (q : Addr) (m : Int) (n : Nat) (s : Bs) (f : Addr) (F : NF) (body : Expr) (fr : List Str) (ws : List V) (wd : List Dat) (Pl : List Dat → PtD) (nums : List Int),
  ds = [.ptr q, .clo f F body ws wd, .int nums.length] ∧ CloSt A h H F fr ws ∧ LmOk Pg w K mg base T 2 f F body fr Pl ∧ M q = some (ben K m n s) ∧ s.Ok m n ∧ In m nums ∧ nums.length ≤ 2000 ∧ (∀ t M', t < nums.length → Pl wd [.int (s.gone + t + 1)] M' (Is (.int (nums.getD t 0)) M')) ∧
  R (.lst (intsD (s.fed m n nums nums.length).2)) (M.set q (ben K m n (s.led K m n nums)))
theorem ok_led (G : Wd K mg) (F : FnT K "led" "Bench.led" s_Bench_led (He.ma K (He.ga K "Bench") "led")) (F1 : FnR Pg w K mg base CX0 2 (He.ga K "is_between") (spD K T (pBtw K))) (F3 : FnR Pg w K mg base CX0 4 (He.ma K (He.ga K "Standing") "behind") (spD K T (pBehind K)))
    (F4 : FnR Pg w K mg base CX0 6 (He.ma K (He.ga K "Bench") "go") (spD K T (pGo K))) (F5 : FnL Pg w K mg base T 3 (He.ma K (He.ga K "Bench") "told_by") (pTold Pg w mg base T K)) :
    FnL Pg w K mg base T 7 (He.ma K (He.ga K "Bench") "led") (pLed Pg w mg base T K) := by
  obtain ⟨fd, F⟩ := F
  refine fdA_ok F sc_Bench_led (F.bindsN fun _ _ _ _ _ _ us hl => match us, hl with | [_, _, _], _ => rfl) (fun A hh H ds M R h => by obtain ⟨_, _, _, _, _, _, _, _, _, _, _, _, rfl, _⟩ := h; rfl) fun cdv A outer st H E ds M R hr hA h => ?_
  obtain ⟨q, m, n, s, f, FF, body, fr, ws, wd, Pl, nums, rfl, hC, hL, hq, ok, hin, hlen, hP, h⟩ := h
  have nd := sc_Bench_led.nd
  have cl := G.c_Bench.cl
  have cs := G.c_Standing.cl
  have hcy := ok.cy
  refine hs_ifF (tnot (b := true) (tx_val (dx_call F1 (hr.mono (by decide)) G.g_is_between G.k_is_between (ax_cons (v 2) (ax_cons dx_int (ax_cons (gi G.i_MOST_STEPS) ax_nil))) ⟨_, _, _, rfl, .inl ⟨_, rfl, ?_, rfl⟩⟩))) ?_
  · rw [decide_eq_true (show (0 : Int) ≤ nums.length by omega), decide_eq_true (show (nums.length : Int) ≤ 2000 by omega)]; rfl
  refine hs_parR 3 4 rfl nd rfl rfl (by decide) rfl rfl (R := fun ds M' => ∃ p, M p = none ∧ ds = [s.dat K, .ptr p] ∧ M' = M.set p (.ml [])) (arx_d (dx_fldM cl G.a_Bench_standing (v 0) hq rfl) (arx_l fun p hp => arx_nil ⟨p, hp, rfl, rfl⟩)) ?_ (fun ds M' h => by obtain ⟨p, _, e, _⟩ := h; rw [e]; rfl)
  rintro da db M1 ⟨p, hp, e, rfl⟩
  cases e
  have hpq : q ≠ p := fun z => by rw [z, hp] at hq; cases hq
  have mp : ∀ (a : MO) (b : MO), ((M.set p a).set q b) p = some a := fun a b => by rw [MM.set_ne (Ne.symm hpq)]; exact MM.set_same
  refine set_ 5 nd (v 3) ?_
  refine hs_fin ?_
  refine hs_for (ixR (n := nums.length) G.n_range (v 2) (by omega)) (fun i Γ' M' => (∃ a, Γ' = [some (.ptr q), some (.clo f FF body ws wd), some (.int nums.length), some (s.dat K), some (.ptr p), some (s.dat K), a]) ∧ M' = (M.set p (.ml (intsD (s.fed m n nums i).2))).set q (ben K m n (s.fed m n nums i).1)) ⟨⟨_, rfl⟩, ?_⟩ ?_ ?_ rfl PassesOwn.never
  · show M.set p (.ml []) = _
    rw [MM.set_self (p := q)]
    · rfl
    · rw [MM.set_ne hpq]; exact hq
  · rintro i Γ' M' hi ⟨⟨a, rfl⟩, rfl⟩
    obtain ⟨ok', w1, w2, wl, wc, wg⟩ := fed_ok ok hin i (by omega)
    obtain ⟨g0, g1⟩ := hin _ (Mi.getD_mem (ns := nums) (i := i) hi)
    refine ⟨_, _, gn 6 nd, ?_⟩
    refine hs_expr (dx_append (q := p) (ds := intsD (s.fed m n nums i).2) (d := .int ((s.fed m n nums i).1.go m n (nums.getD i 0) s.cyc).2) (v 4) (dx_meth F4 (hr.mono (by decide)) cl G.m_Bench_go (v 0) (.inr ⟨q, _, rfl, MM.set_same, rfl⟩) (ax_cons (RX.toD (rx_methA F5 (hr.mono (by decide)) cl G.m_Bench_told_by (v 0) (.inr ⟨q, _, rfl, MM.set_same, rfl⟩) (ax_cons (v 1) ax_nil)
      fun pins s1 σ1 H1 I1 => ⟨q, m, n, _, f, FF, body, fr, ws, wd, Pl, nums.getD i 0, rfl, hC.later hA rfl I1, hL, MM.set_same, ok', by rw [wg]; exact hP i _ hi, g0, g1, rfl, rfl⟩)) (ax_cons (dx_fld cs G.a_Standing_cycle (v 3) rfl) ax_nil))
      ⟨q, m, n, _, _, _, rfl, MM.set_same, ok', g0, g1, rfl, rfl⟩) (mp _ _) ?_ ?_) (hs_nil ⟨⟨_, rfl⟩, ?_⟩)
    · rw [MM.set_set]; exact mp _ _
    · rw [ints_len, wl]; omega
    · rw [MM.set_set, Bs.fed]
      rw [MM.set_comm (p := q) (q := p) hpq, MM.set_set]
      rw [show intsD (s.fed m n nums i).2 ++ [Dat.int ((s.fed m n nums i).1.go m n (nums.getD i 0) s.cyc).2] = intsD ((s.fed m n nums i).2 ++ [((s.fed m n nums i).1.go m n (nums.getD i 0) s.cyc).2]) by simp [intsD]]
  · rintro Γ' M' ⟨⟨a, rfl⟩, rfl⟩
    obtain ⟨ok', w1, w2, wl, wc, wg⟩ := fed_ok ok hin nums.length (Nat.le_refl _)
    refine set_ 5 nd dx_non (hs_nil ?_)
    refine hs_ifF (tnotN (v 5)) (hs_nil ?_)
    refine hs_fz 4 (q := p) (mo := .ml (intsD (s.fed m n nums nums.length).2)) (Γ2 := [some (.ptr q), some (.clo f FF body ws wd), some (.int nums.length), some (s.dat K), some (.lst (intsD (s.fed m n nums nums.length).2)), some .non, a]) (mp _ _) rfl rfl (Mq := M.set q (ben K m n (s.fed m n nums nums.length).1)) ?_ ?_
    · rw [MM.set_comm (p := p) (q := q) (Ne.symm hpq)]
      exact MM.del_set (by rw [MM.set_ne (Ne.symm hpq)]; exact hp)
    refine hs_fld cl G.a_Bench_standing (d := (s.led K m n nums).dat K) (RX.freeze (rx_meth F3 (hr.mono (by decide)) cs G.m_Standing_behind (dx_fldM cl G.a_Bench_standing (v 0) MM.set_same rfl) (.inl ⟨_, rfl, rfl⟩) (ax_cons (v 3) (ax_cons dx_str ax_nil)) ⟨_, _, _, _, _, _, _, strsD s.words, _, _, _, _, _, _, _, rfl, by rw [strsD_len]; have := ok.wl; omega, fun p hp => ⟨p, _, rfl, hp, rfl, ?_⟩⟩)) (v 0) MM.set_same (show 2 < 900 by decide) (hs_ret (v 4) ?_)
    · rw [strsD_app]; rfl
    · rw [MM.set_set]; exact h
abbrev pTried (Pg : Program) (w : World) (mg : Str → Option Value) (base : Heap) (T : TL) (K : PySem.W.Frag) (k : Nat) : PtA := fun A h H ds M R => ∃ (q : Addr) (m : Int) (n : Nat) (s : Bs) (f : Addr) (F : NF) (body : Expr) (fr : List Str) (ws : List V) (wd : List Dat) (Pl : List Dat → PtD),
  ds = [.ptr q, .clo f F body ws wd] ∧ CloSt A h H F fr ws ∧ LmOk Pg w K mg base T k f F body fr Pl ∧ M q = some (ben K m n s) ∧
  Pl wd [.ptr q] M (fun d M' => ∃ s', M' q = some (ben K m n s') ∧ R d (M'.set q (ben K m n s)))
theorem ok_tried {k : Nat} (G : Wd K mg) (F : FnT K "tried" "Bench.tried" s_Bench_tried (He.ma K (He.ga K "Bench") "tried")) :
    FnL Pg w K mg base T (k + 1) (He.ma K (He.ga K "Bench") "tried") (pTried Pg w mg base T K k) := by
  obtain ⟨fd, F⟩ := F
  refine fdA_ok F sc_Bench_tried (F.bindsN fun _ _ _ _ _ _ us hl => match us, hl with | [_, _], _ => rfl) (fun A hh H ds M R h => by obtain ⟨_, _, _, _, _, _, _, _, _, _, _, rfl, _⟩ := h; rfl) fun cdv A outer st H E ds M R hr hA h => ?_
  obtain ⟨q, m, n, s, f, FF, body, fr, ws, wd, Pl, rfl, hC, hL, hq, hP⟩ := h
  have nd := sc_Bench_tried.nd
  have cl := G.c_Bench.cl
  refine set_ 2 nd (dx_fldM cl G.a_Bench_standing (v 0) hq rfl) ?_
  refine hs_retFin (rx_callLam rfl hL hr hA hC 1 rfl (.inl rfl) rfl (ax_cons (v 0) ax_nil) hP) ?_
  rintro d M1 ⟨s', hs', hR⟩
  exact hs_fld cl G.a_Bench_standing (v 2) (v 0) hs' (show 2 < 900 by decide) (hs_nil hR)
end
end Tx
end
section
set_option autoImplicit false
/-! Two-sided rows of rests; the formula of Newton. -/
namespace Mi
theorem int_all {p : Int → Prop} (h0 : p 0) (hs : ∀ q, p q ↔ p (q + 1)) (q : Int) : p q := by
  have up : ∀ n : Nat, p n := fun n => by
    induction n with
    | zero => exact h0
    | succ n ih => exact (hs n).mp ih
  have dn : ∀ n : Nat, p (-(n : Int)) := fun n => by
    induction n with
    | zero => exact h0
    | succ n ih => exact (hs (-((n + 1 : Nat) : Int))).mpr (by rw [show -((n + 1 : Nat) : Int) + 1 = -(n : Int) by omega]; exact ih)
  by_cases h : 0 ≤ q
  · obtain ⟨n, rfl⟩ := Int.eq_ofNat_of_zero_le h
    exact up n
  · have := dn (-q).toNat
    rwa [show -(((-q).toNat : Nat) : Int) = q by omega] at this
/-! binomials -/
def ff (n : Int) : Nat → Int
  | 0 => 1
  | k + 1 => ff n k * (n - k)
def fac : Nat → Int
  | 0 => 1
  | k + 1 => (k + 1) * fac k
theorem fac_pos : ∀ k, 0 < fac k
  | 0 => by decide
  | k + 1 => Int.mul_pos (by omega) (fac_pos k)
theorem ff_low (n : Int) : ∀ k, ff (n + 1) (k + 1) = (n + 1) * ff n k
  | 0 => by simp [ff]
  | k + 1 => by
    rw [ff, ff_low n k, ff]
    have : n + 1 - ((k + 1 : Nat) : Int) = n - k := by omega
    rw [this, Int.mul_assoc]
theorem ff_step (n : Int) (k : Nat) : ff (n + 1) (k + 1) = ff n (k + 1) + (k + 1) * ff n k := by
  rw [ff_low, ff, Int.mul_comm (ff n k), ← Int.add_mul]
  congr 1; omega
theorem ff_zero : ∀ k, ff 0 (k + 1) = 0
  | 0 => by simp [ff]
  | k + 1 => by rw [ff, ff_zero k, Int.zero_mul]
theorem ff_dvd : ∀ (k : Nat) (n : Int), fac k ∣ ff n k
  | 0, n => by simp [ff, fac]
  | k + 1, n => by
    refine int_all (p := fun n => fac (k + 1) ∣ ff n (k + 1)) (by rw [ff_zero]; exact Int.dvd_zero _) (fun q => ?_) n
    have h : fac (k + 1) ∣ (k + 1) * ff q k := by rw [fac]; exact Int.mul_dvd_mul_left _ (ff_dvd k q)
    rw [ff_step]
    exact ⟨fun a => Int.dvd_add a h, fun a => by
      have := Int.dvd_sub a h
      rwa [Int.add_sub_cancel] at this⟩
theorem binI_ff (n : Int) : ∀ k, binI n k * fac k = ff n k
  | 0 => by simp [binI, fac, ff]
  | k + 1 => by
    obtain ⟨c, hc⟩ := ff_dvd (k + 1) n
    have ih := binI_ff n k
    have hp := fac_pos k
    have e : binI n k * (n - k) = c * (k + 1) := by
      apply Int.eq_of_mul_eq_mul_right (a := fac k) (by omega)
      have e0 : binI n k * (n - k) * fac k = ff n (k + 1) := by rw [Int.mul_right_comm, ih]; rfl
      rw [e0, hc, fac, Int.mul_comm, ← Int.mul_assoc]
    rw [binI, e, Int.mul_ediv_cancel _ (by omega), hc, Int.mul_comm]
theorem binI_pascal (n : Int) (k : Nat) : binI (n + 1) (k + 1) = binI n (k + 1) + binI n k := by
  have hp := fac_pos (k + 1)
  apply Int.eq_of_mul_eq_mul_right (a := fac (k + 1)) (by omega)
  rw [binI_ff, ff_step, Int.add_mul (binI n (k + 1)), binI_ff]
  congr 1
  rw [fac, ← binI_ff n k, Int.mul_left_comm]
theorem binI_zero : ∀ k, binI 0 (k + 1) = 0
  | 0 => by simp [binI]
  | k + 1 => by rw [binI, binI_zero k]; simp
/-! differences -/
def Dn (L : Int) : Nat → (Int → Int) → Int → Int
  | 0, f, b => f b
  | d + 1, f, b => Dn L d f (b + L) - Dn L d f b
section
variable {L m : Int} {f g h : Int → Int}
theorem Dn_shift (c : Int) : ∀ d b, Dn L d (fun b => f (b + c)) b = Dn L d f (b + c)
  | 0, b => rfl
  | d + 1, b => by rw [Dn, Dn, Dn_shift c d, Dn_shift c d, show b + L + c = b + c + L by omega]
theorem Dn_sub : ∀ d b, Dn L d (fun b => f b - g b) b = Dn L d f b - Dn L d g b
  | 0, b => rfl
  | d + 1, b => by rw [Dn, Dn, Dn, Dn_sub d, Dn_sub d]; omega
theorem Dn_dvd (h : ∀ b, m ∣ f b) : ∀ d b, m ∣ Dn L d f b
  | 0, b => h b
  | d + 1, b => Int.dvd_sub (Dn_dvd h d _) (Dn_dvd h d _)
/-- a sum of what vanishes behind d differences vanishes behind d + 1 -/
theorem Dn_up {L : Nat} {d : Nat} (hf : ∀ b, m ∣ f (b + 1) - f b - g b) (hg : ∀ b, m ∣ Dn L d g b) (b : Int) : m ∣ Dn L (d + 1) f b := by
  have h1 : ∀ b, m ∣ Dn L d f (b + 1) - Dn L d f b := fun b => by
    have := Dn_dvd (L := L) hf d b
    rw [Dn_sub (f := fun b => f (b + 1) - f b), Dn_sub, Dn_shift] at this
    have := Int.dvd_add this (hg b)
    rwa [Int.sub_add_cancel] at this
  have h2 : ∀ (t : Nat) b, m ∣ Dn L d f (b + t) - Dn L d f b := fun t => by
    induction t with
    | zero => intro b; rw [show b + ((0 : Nat) : Int) = b by omega, Int.sub_self]; exact Int.dvd_zero _
    | succ t ih =>
      intro b
      have := Int.dvd_add (h1 (b + t)) (ih b)
      rw [show b + ((t + 1 : Nat) : Int) = b + t + 1 by omega]
      rwa [show Dn L d f (b + t + 1) - Dn L d f (b + t) + (Dn L d f (b + t) - Dn L d f b) = Dn L d f (b + t + 1) - Dn L d f b by omega] at this
  exact h2 L b
theorem Dn_scale {a : Int} : ∀ d q, Dn 1 d (fun q => f (a + L * q)) q = Dn L d f (a + L * q)
  | 0, q => rfl
  | d + 1, q => by
    rw [Dn, Dn, Dn_scale d, Dn_scale d, Int.mul_add, Int.mul_one, ← Int.add_assoc]
theorem Dn_inner (d : Nat) (b : Int) : Dn L d (fun b => f (b + L) - f b) b = Dn L (d + 1) f b := by
  rw [Dn_sub, Dn_shift, Dn]
end
theorem sum_shift (f : Nat → Int) : ∀ n, ((List.range (n + 1)).map f).sum = f 0 + ((List.range n).map fun i => f (i + 1)).sum
  | 0 => by simp
  | n + 1 => by rw [sum_range_succ, sum_shift f n, sum_range_succ]; omega
theorem sum_sub (f g : Nat → Int) : ∀ n, ((List.range n).map f).sum - ((List.range n).map g).sum = ((List.range n).map fun i => f i - g i).sum
  | 0 => by simp
  | n + 1 => by rw [sum_range_succ, sum_range_succ, sum_range_succ, ← sum_sub f g n]; omega
theorem sum_zero (f : Nat → Int) (h : ∀ i, f i = 0) : ∀ n, ((List.range n).map f).sum = 0
  | 0 => rfl
  | n + 1 => by rw [sum_range_succ, sum_zero f h n, h]; rfl
theorem sum_dvd {m : Int} (f : Nat → Int) : ∀ n, (∀ i, i < n → m ∣ f i) → m ∣ ((List.range n).map f).sum
  | 0, _ => by simp
  | n + 1, h => by rw [sum_range_succ]; exact Int.dvd_add (sum_dvd f n fun i hi => h i (by omega)) (h n (by omega))
theorem sum_congr {f g : Nat → Int} {n : Nat} (h : ∀ i, i < n → f i = g i) : ((List.range n).map f).sum = ((List.range n).map g).sum := by
  congr 1
  exact List.map_congr_left fun i hi => h i (List.mem_range.mp hi)
/-- Newton's formula, at every whole number -/
theorem newton {m : Int} : ∀ (d : Nat) (F : Int → Int), (∀ q, m ∣ Dn 1 d F q) → ∀ q, m ∣ F q - ((List.range d).map fun j => binI q j * Dn 1 j F 0).sum
  | 0, F, h, q => by simpa [Dn] using h q
  | d + 1, F, h, q => by
    have ih := newton d (fun q => F (q + 1) - F q) fun q => by rw [Dn_inner]; exact h q
    refine int_all (p := fun q => m ∣ F q - ((List.range (d + 1)).map fun j => binI q j * Dn 1 j F 0).sum) ?_ (fun q => ?_) q
    · rw [sum_shift, sum_zero _ fun i => by rw [binI_zero, Int.zero_mul]]
      simp [binI, Dn]
    · have e : ((List.range (d + 1)).map fun j => binI (q + 1) j * Dn 1 j F 0).sum - ((List.range (d + 1)).map fun j => binI q j * Dn 1 j F 0).sum = ((List.range d).map fun j => binI q j * Dn 1 j (fun q => F (q + 1) - F q) 0).sum := by
        rw [sum_sub, sum_shift]
        rw [show binI (q + 1) 0 * Dn 1 0 F 0 - binI q 0 * Dn 1 0 F 0 = 0 by simp [binI], Int.zero_add]
        refine sum_congr fun i _ => ?_
        rw [binI_pascal, Dn_inner, Int.add_mul]
        omega
      have a := ih q
      rw [← e] at a
      have e2 : F (q + 1) - F q - (((List.range (d + 1)).map fun j => binI (q + 1) j * Dn 1 j F 0).sum - ((List.range (d + 1)).map fun j => binI q j * Dn 1 j F 0).sum) = (F (q + 1) - ((List.range (d + 1)).map fun j => binI (q + 1) j * Dn 1 j F 0).sum) - (F q - ((List.range (d + 1)).map fun j => binI q j * Dn 1 j F 0).sum) := by omega
      rw [e2] at a
      exact ⟨fun b => by have := Int.dvd_add a b; rwa [Int.sub_add_cancel] at this, fun b => by have := Int.dvd_sub b a; rwa [Int.sub_sub_self] at this⟩
theorem diffs_range (F : Int → Int) : ∀ d (a : Nat), diffs ((List.range' a (d + 1)).map fun j => F (j : Nat)) = (List.range' a d).map fun j => F ((j : Nat) + 1) - F (j : Nat)
  | 0, a => rfl
  | d + 1, a => by
    rw [List.range'_succ, List.range'_succ, List.map_cons, List.map_cons, diffs, List.range'_succ, List.map_cons]
    have := diffs_range F d (a + 1)
    rw [List.range'_succ, List.map_cons] at this
    rw [this]
    simp
theorem coefs_at {m : Int} : ∀ (d : Nat) (F : Int → Int) (j : Nat), j < d → (coefs m ((List.range d).map fun j => F (j : Nat))).getD j 0 = Dn 1 j F 0 % m
  | 0, F, j, h => by omega
  | d + 1, F, j, h => by
    have e : diffs ((List.range (d + 1)).map fun (j : Nat) => F (j : Nat)) = (List.range d).map fun (j : Nat) => F ((j : Nat) + 1) - F (j : Nat) := by
      rw [List.range_eq_range', List.range_eq_range', diffs_range]
    have e2 : (List.range (d + 1)).map (fun (j : Nat) => F (j : Nat)) = F (0 : Nat) :: (List.range' 1 d).map fun (j : Nat) => F (j : Nat) := by
      rw [List.range_eq_range', List.range'_succ, List.map_cons]
    rw [e2] at e ⊢
    rw [coefs, e]
    cases j with
    | zero => simp [Dn]
    | succ j =>
      rw [List.getD_cons_succ, coefs_at d (fun q => F (q + 1) - F q) j (by omega), Dn_inner]
/-! two-sided rows -/
theorem undo_in (late : Bool) (m : Int) : ∀ (xs : List Int) (g : Int), In m xs → 0 ≤ g → g ≤ m - 1 → In m (undo late m xs g) ∧ (beat late m (undo late m xs g) g).1 = xs
  | [], g, _, _, _ => ⟨fun _ h => by simp [undo] at h, rfl⟩
  | x :: r, g, h, g0, g1 => by
    have hx := h x List.mem_cons_self
    have hr : In m r := fun y hy => h y (List.mem_cons_of_mem _ hy)
    have hy : 0 ≤ (if g ≤ x then x - g else x - g + m) ∧ (if g ≤ x then x - g else x - g + m) ≤ m - 1 := by split <;> omega
    have hg : 0 ≤ (if late then (if g ≤ x then x - g else x - g + m) else x) ∧ (if late then (if g ≤ x then x - g else x - g + m) else x) ≤ m - 1 := by
      cases late
      · exact hx
      · exact hy
    obtain ⟨a, b⟩ := undo_in late m r _ hr hg.1 hg.2
    have ey : (if g ≤ x then x - g else x - g + m) + g - (if m ≤ (if g ≤ x then x - g else x - g + m) + g then 1 else 0) * m = x := by
      split <;> split <;> omega
    refine ⟨fun y hm => ?_, ?_⟩
    · simp only [undo, List.mem_cons] at hm
      rcases hm with rfl | hm
      · exact hy
      · exact a y hm
    · simp only [undo, beat]
      rw [ey, b]
def Rn.W (r : Rn) (b : Int) : List Int := if 0 ≤ b then r.row b.toNat else bw r.late r.m r.lead r.starts (-b).toNat
section
variable {r : Rn}
theorem num_nat (row : List Int) (t : Nat) : num row t = row.getD (t % row.length) 0 := by
  unfold num
  congr 1
theorem num_in' {m : Int} {row : List Int} (h : row ≠ []) (hi : In m row) (b : Int) : 0 ≤ num row b ∧ num row b ≤ m - 1 := hi _ (getD_mem (mod_lt' h b))
theorem row_in (h : r.Ok) : ∀ t, In r.m (r.row t)
  | 0 => h.si
  | t + 1 => by
    have g := num_in' h.l0 h.li t
    rw [num_nat] at g
    rw [Rn.row]
    exact (beat_in r.late r.m _ _ (row_in h t) g.1 g.2).1
theorem bw_in (h : r.Ok) : ∀ j, In r.m (bw r.late r.m r.lead r.starts j)
  | 0 => h.si
  | j + 1 => by
    have g := num_in' h.l0 h.li (-(j : Int) - 1)
    rw [bw]
    exact (undo_in r.late r.m _ _ (bw_in h j) g.1 g.2).1
theorem W_in (h : r.Ok) (b : Int) : In r.m (r.W b) := by
  unfold Rn.W
  split
  · exact row_in h _
  · exact bw_in h _
theorem W_len (h : r.Ok) (b : Int) : (r.W b).length = r.n := by
  unfold Rn.W
  split
  · exact Rn.row_len h _
  · rw [bw_len, h.s0]
theorem W_neg (j : Nat) : r.W (-(j : Int)) = bw r.late r.m r.lead r.starts j := by
  unfold Rn.W
  split
  · have : j = 0 := by omega
    subst this; rfl
  · congr 1; omega
theorem W_nat (t : Nat) : r.W t = r.row t := by
  unfold Rn.W
  rw [if_pos (by omega)]; rfl
theorem W_step (h : r.Ok) (b : Int) : r.W (b + 1) = (beat r.late r.m (r.W b) (num r.lead b)).1 := by
  by_cases hb : 0 ≤ b
  · obtain ⟨t, rfl⟩ := Int.eq_ofNat_of_zero_le hb
    rw [show ((t : Nat) : Int) + 1 = ((t + 1 : Nat) : Int) by omega, W_nat, W_nat, Rn.row, num_nat]
  · obtain ⟨j, rfl⟩ : ∃ j : Nat, b = -((j + 1 : Nat) : Int) := ⟨(-b).toNat - 1, by omega⟩
    have g := num_in' h.l0 h.li (-(j : Int) - 1)
    rw [show -((j + 1 : Nat) : Int) + 1 = -(j : Int) by omega, W_neg, W_neg, bw, show -((j + 1 : Nat) : Int) = -(j : Int) - 1 by omega]
    exact (undo_in r.late r.m _ _ (bw_in h j) g.1 g.2).2.symm
/-- what a stage hears -/
def heard (late : Bool) (xs ys : List Int) (g : Int) : Nat → Int
  | 0 => g
  | k + 1 => if late then xs.getD k 0 else ys.getD k 0
theorem beat_at (late : Bool) (m : Int) : ∀ (xs : List Int) (g : Int) (k : Nat), k < xs.length → ∃ c, (beat late m xs g).1.getD k 0 = xs.getD k 0 + heard late xs (beat late m xs g).1 g k - c * m ∧ (beat late m xs g).2.getD k 0 = c
  | [], g, k, h => by simp at h
  | x :: r, g, 0, h => ⟨if m ≤ x + g then 1 else 0, by simp [beat, heard], by simp [beat]⟩
  | x :: r, g, k + 1, h => by
    obtain ⟨c, hc, hc2⟩ := beat_at late m r (if late then x else x + g - (if m ≤ x + g then 1 else 0) * m) k (by simpa using h)
    refine ⟨c, ?_, by simpa [beat] using hc2⟩
    simp only [beat, List.getD_cons_succ]
    rw [hc]
    congr 2
    cases k with
    | zero => cases late <;> simp [heard]
    | succ k => cases late <;> simp [heard]
/-- behind k + 2 differences nothing is left -/
theorem W_dn (h : r.Ok) : ∀ (k : Nat), k < r.n → ∀ b, r.m ∣ Dn r.lead.length (k + 2) (fun b => (r.W b).getD k 0) b := by
  have st : ∀ k, k < r.n → ∀ b, r.m ∣ (r.W (b + 1)).getD k 0 - (r.W b).getD k 0 - heard r.late (r.W b) (r.W (b + 1)) (num r.lead b) k := fun k hk b => by
    obtain ⟨c, hc, _⟩ := beat_at r.late r.m (r.W b) (num r.lead b) k (by rw [W_len h]; exact hk)
    rw [← W_step h] at hc
    rw [hc]
    exact ⟨-c, by rw [Int.mul_neg, Int.mul_comm]; omega⟩
  have hl : 0 < r.lead.length := List.length_pos_iff.mpr h.l0
  intro k
  induction k with
  | zero =>
    intro hk b
    refine Dn_up (g := fun b => num r.lead b) (fun b => st 0 hk b) (fun b => ?_) b
    show r.m ∣ num r.lead (b + r.lead.length) - num r.lead b
    unfold num
    rw [Int.add_emod_right, Int.sub_self]
    exact Int.dvd_zero _
  | succ k ih =>
    intro hk b
    have ih := ih (by omega)
    refine Dn_up (g := fun b => heard r.late (r.W b) (r.W (b + 1)) (num r.lead b) (k + 1)) (fun b => st (k + 1) hk b) (fun b => ?_) b
    cases hlt : r.late with
    | true => exact ih b
    | false =>
      have := ih (b + 1)
      rw [← Dn_shift] at this
      exact this
/-- the told rest is the true one, at every beat -/
theorem rest_true (h : r.Ok) {k : Nat} (hk : k < r.n) (b : Int) : r.rest (k + 1) b = (r.W b).getD k 0 := by
  have hl : 0 < r.lead.length := List.length_pos_iff.mpr h.l0
  have hL : (r.lead.length : Int) ≠ 0 := by omega
  have ha := Int.emod_nonneg b hL
  let a : Nat := (b % r.lead.length).toNat
  have hae : (a : Int) = b % r.lead.length := Int.toNat_of_nonneg ha
  let F : Int → Int := fun q => (r.W ((a : Int) + r.lead.length * q)).getD k 0
  have hF : ∀ q, r.m ∣ Dn 1 (k + 2) F q := fun q => by
    have := W_dn h k hk ((a : Int) + r.lead.length * q)
    rw [← Dn_scale] at this
    exact this
  have hN := newton (k + 2) F hF (b / r.lead.length)
  have hb : (a : Int) + r.lead.length * (b / r.lead.length) = b := by rw [hae]; exact Int.emod_add_mul_ediv b _
  have hFb : F (b / r.lead.length) = (r.W b).getD k 0 := by show (r.W ((a : Int) + r.lead.length * (b / r.lead.length))).getD k 0 = _; rw [hb]
  have ht : r.tab a k = coefs r.m ((List.range (k + 2)).map fun j => F (j : Nat)) := by
    unfold Rn.tab
    congr 1
  have hlen : (r.tab a k).length = k + 2 := by rw [ht, coefs_len (k + 2) _ (by simp)]
  have hs : r.m ∣ sumB (r.tab a k) (b / r.lead.length) - ((List.range (k + 2)).map fun j => binI (b / r.lead.length) j * Dn 1 j F 0).sum := by
    unfold sumB
    rw [hlen, sum_sub]
    refine sum_dvd _ _ fun i hi => ?_
    rw [ht, coefs_at (k + 2) F i hi, Int.mul_comm (binI _ _), ← Int.sub_mul]
    refine Int.dvd_mul_of_dvd_left ?_ 
    exact ⟨-(Dn 1 i F 0 / r.m), by have := Int.emod_add_mul_ediv (Dn 1 i F 0) r.m; rw [Int.mul_neg]; omega⟩
  have hm := h.m2
  have hx := W_in h b _ (getD_mem (ns := r.W b) (i := k) (by rw [W_len h]; exact hk))
  show sumB (r.tab a k) (b / r.lead.length) % r.m = _
  rw [hFb] at hN
  have hd : r.m ∣ sumB (r.tab a k) (b / r.lead.length) - (r.W b).getD k 0 := by
    have := Int.dvd_sub hs hN
    rwa [show sumB (r.tab a k) (b / r.lead.length) - ((List.range (k + 2)).map fun j => binI (b / r.lead.length) j * Dn 1 j F 0).sum - ((r.W b).getD k 0 - ((List.range (k + 2)).map fun j => binI (b / r.lead.length) j * Dn 1 j F 0).sum) = sumB (r.tab a k) (b / r.lead.length) - (r.W b).getD k 0 by omega] at this
  obtain ⟨c, hc⟩ := hd
  have e : sumB (r.tab a k) (b / r.lead.length) = (r.W b).getD k 0 + r.m * c := by omega
  rw [e, Int.add_mul_emod_self_left]
  exact Int.emod_eq_of_lt hx.1 (by omega)
theorem rests_true (h : r.Ok) (b : Int) : r.rests b = r.W b := by
  have hl := W_len h b
  apply List.ext_getElem
  · simp [Rn.rests, hl]
  · intro i a c
    simp only [Rn.rests, List.getElem_map, List.getElem_range]
    rw [rest_true h (by rw [← hl]; exact c)]
    simp [List.getD_eq_getElem?_getD, c]
end
end Mi
end
section
set_option autoImplicit false
/-! The shortest row of a cycle; rotations. -/
namespace Mi
/-- L is a period of the two-sided row s -/
def Per (s : Int → Int) (L : Int) : Prop := ∀ b, s (b + L) = s b
section
variable {s : Int → Int}
theorem Per.neg {L : Int} (h : Per s L) : Per s (-L) := fun b => by have := h (b + -L); rw [show b + -L + L = b by omega] at this; exact this.symm
theorem Per.add {L L' : Int} (h : Per s L) (h' : Per s L') : Per s (L + L') := fun b => by rw [← Int.add_assoc, h', h]
theorem Per.mul {L : Int} (h : Per s L) : ∀ k : Nat, Per s (L * k)
  | 0 => fun b => by simp
  | k + 1 => by rw [show L * ((k + 1 : Nat) : Int) = L * k + L by rw [Int.natCast_add, Int.mul_add]; simp]; exact (h.mul k).add h
theorem Per.gcd {a b : Nat} : Per s a → Per s b → Per s (Nat.gcd a b) := by
  refine Nat.gcd.induction (P := fun a b => Per s (a : Nat) → Per s (b : Nat) → Per s (Nat.gcd a b)) a b (fun n _ h => by rw [Nat.gcd_zero_left]; exact h) fun m n hm ih h1 h2 => ?_
  rw [Nat.gcd_rec]
  refine ih ?_ h1
  have e : ((n % m : Nat) : Int) = n + -((m : Int) * (n / m : Nat)) := by
    have := Nat.mod_add_div n m
    omega
  rw [e]
  exact h2.add (h1.mul _).neg
end
section
variable {ns ms : List Int}
theorem num_per (ns : List Int) : Per (num ns) ns.length := fun b => by
  unfold num
  rw [Int.add_emod_right]
theorem num_lt {i : Nat} (h : i < ns.length) : num ns i = ns.getD i 0 := by rw [num_nat, Nat.mod_eq_of_lt h]
/-- the words of isPer -/
theorem isPer_iff {L : Nat} : isPer ns L = true ↔ ∀ i, L + i < ns.length → ns.getD (L + i) 0 = ns.getD i 0 := by
  unfold isPer
  rw [List.all_eq_true]
  constructor
  · intro h i hi
    have := h (decide (ns.getD (L + i) 0 = ns.getD i 0)) (List.mem_map.mpr ⟨i, List.mem_range.mpr (by omega), rfl⟩)
    simpa using this
  · intro h x hx
    obtain ⟨i, hi, rfl⟩ := List.mem_map.mp hx
    have := h i (by have := List.mem_range.mp hi; omega)
    simpa using this
/-- a divisor of the length: a period of the list is one of the row -/
theorem isPer_per {L : Nat} (h0 : 0 < ns.length) (hd : L ∣ ns.length) (hL : 0 < L) : isPer ns L = true ↔ Per (num ns) L := by
  rw [isPer_iff]
  constructor
  · intro h
    -- all places by their rest
    obtain ⟨c, hc⟩ := hd
    have key : ∀ q i, i < L → L * q + i < ns.length → ns.getD (L * q + i) 0 = ns.getD i 0 := fun q => by
      induction q with
      | zero => intro i _ _; rw [Nat.mul_zero, Nat.zero_add]
      | succ q ih =>
        intro i hi hl
        rw [Nat.mul_succ] at hl ⊢
        rw [show L * q + L + i = L + (L * q + i) by omega, h _ (by omega)]
        exact ih i hi (by omega)
    have all : ∀ j, j < ns.length → ns.getD j 0 = ns.getD (j % L) 0 := fun j hj => by
      have e := Nat.div_add_mod j L
      have := key (j / L) (j % L) (Nat.mod_lt _ hL) (by rw [e]; exact hj)
      rwa [e] at this
    intro b
    unfold num
    have hn : ns ≠ [] := List.length_pos_iff.mp h0
    rw [all _ (mod_lt' hn _), all _ (mod_lt' hn _)]
    congr 1
    have p1 := Int.emod_nonneg b (show (ns.length : Int) ≠ 0 by omega)
    have p2 := Int.emod_nonneg (b + L) (show (ns.length : Int) ≠ 0 by omega)
    have hdv : (L : Int) ∣ ns.length := ⟨c, by rw [hc]; simp⟩
    have e1 : (((b + L) % ns.length).toNat % L : Nat) = ((((b + L) % ns.length) % (L : Int)).toNat) := by
      rw [Int.toNat_emod p2 (by omega)]; simp
    have e2 : ((b % ns.length).toNat % L : Nat) = (((b % ns.length) % (L : Int)).toNat) := by
      rw [Int.toNat_emod p1 (by omega)]; simp
    rw [e1, e2, Int.emod_emod_of_dvd _ hdv, Int.emod_emod_of_dvd _ hdv, Int.add_emod_right]
  · intro h i hi
    have := h i
    rw [show (i : Int) + L = ((L + i : Nat) : Int) by omega, num_lt hi, num_lt (by omega)] at this
    exact this
/-- what shortFrom finds -/
theorem shortFrom_spec (h0 : 0 < ns.length) : ∀ f L, 0 < L → L + f = ns.length → (∀ j, 0 < j → j < L → ¬ (j ∣ ns.length ∧ Per (num ns) j)) →
    ∃ p, 0 < p ∧ p ∣ ns.length ∧ Per (num ns) p ∧ (∀ j, 0 < j → j < p → ¬ (j ∣ ns.length ∧ Per (num ns) j)) ∧ shortFrom ns L f = ns.take p
  | 0, L, hL, e, hm => ⟨ns.length, h0, Nat.dvd_refl _, num_per ns, by rw [show ns.length = L by omega] at hm ⊢; exact hm, by rw [List.take_length]; rfl⟩
  | f + 1, L, hL, e, hm => by
    unfold shortFrom
    by_cases hc : (decide (ns.length % L = 0) && isPer ns L) = true
    · rw [if_pos hc]
      rw [Bool.and_eq_true, decide_eq_true_eq] at hc
      have hd := Nat.dvd_of_mod_eq_zero hc.1
      exact ⟨L, hL, hd, (isPer_per h0 hd hL).mp hc.2, hm, rfl⟩
    · rw [if_neg hc]
      refine shortFrom_spec h0 f (L + 1) (by omega) (by omega) fun j j0 hj => ?_
      by_cases hjl : j < L
      · exact hm j j0 hjl
      · have : j = L := by omega
        subst this
        rintro ⟨d1, d2⟩
        apply hc
        rw [Bool.and_eq_true, decide_eq_true_eq]
        exact ⟨Nat.mod_eq_zero_of_dvd d1, (isPer_per h0 d1 j0).mpr d2⟩
theorem shortest_spec (h : ns ≠ []) : ∃ p, 0 < p ∧ p ∣ ns.length ∧ Per (num ns) p ∧ (∀ j, 0 < j → j < p → ¬ Per (num ns) j) ∧ shortest ns = ns.take p := by
  have h0 := List.length_pos_iff.mpr h
  obtain ⟨p, p0, pd, pp, pm, pe⟩ := shortFrom_spec (ns := ns) h0 (ns.length - 1) 1 (by decide) (by omega) (fun j a b => by omega)
  refine ⟨p, p0, pd, pp, fun j j0 hj hp => ?_, pe⟩
  have hg := hp.gcd (num_per ns)
  have g0 : 0 < Nat.gcd j ns.length := Nat.gcd_pos_of_pos_left _ j0
  have g1 : Nat.gcd j ns.length ≤ j := Nat.gcd_le_left _ j0
  exact pm _ g0 (by omega) ⟨Nat.gcd_dvd_right _ _, hg⟩
theorem num_take {p : Nat} (h0 : 0 < ns.length) (p0 : 0 < p) (pd : p ∣ ns.length) (pp : Per (num ns) p) (b : Int) : num (ns.take p) b = num ns b := by
  have hp : p ≤ ns.length := Nat.le_of_dvd h0 pd
  have hl : (ns.take p).length = p := by rw [List.length_take]; omega
  have hn := Int.emod_nonneg b (show (p : Int) ≠ 0 by omega)
  have hlt := Int.emod_lt_of_pos b (show (0 : Int) < p by omega)
  have e1 : num (ns.take p) b = ns.getD (b % p).toNat 0 := by
    unfold num
    rw [hl]
    simp only [List.getD_eq_getElem?_getD, List.getElem?_take]
    rw [if_pos (by omega)]
  have e2 : num ns b = num ns (b % p) := by
    have := Int.emod_add_mul_ediv b p
    by_cases hq : 0 ≤ b / p
    · obtain ⟨k, hk⟩ := Int.eq_ofNat_of_zero_le hq
      have q := pp.mul k (b % p)
      rw [hk] at this
      rw [this] at q
      exact q
    · obtain ⟨k, hk⟩ : ∃ k : Nat, b / p = -(k : Int) := ⟨(-(b / p)).toNat, by omega⟩
      have q := (pp.mul k).neg (b % p)
      rw [hk, Int.mul_neg] at this
      rw [this] at q
      exact q
  rw [e1, e2]
  obtain ⟨i, hi⟩ := Int.eq_ofNat_of_zero_le hn
  rw [hi] at hlt ⊢
  rw [num_lt (ns := ns) (i := i) (by omega)]
  rfl
theorem num_shortest (h : ns ≠ []) (b : Int) : num (shortest ns) b = num ns b := by
  obtain ⟨p, p0, pd, pp, _, e⟩ := shortest_spec h
  rw [e]
  exact num_take (List.length_pos_iff.mpr h) p0 pd pp b
/-- rows that tell the same have the same shortest one -/
theorem shortest_eq (h : ns ≠ []) (h' : ms ≠ []) (e : ∀ b, num ns b = num ms b) : shortest ns = shortest ms := by
  have hs : num ns = num ms := funext e
  obtain ⟨p, p0, pd, pp, pm, pe⟩ := shortest_spec h
  obtain ⟨q, q0, qd, qp, qm, qe⟩ := shortest_spec h'
  have l1 := Nat.le_of_dvd (List.length_pos_iff.mpr h) pd
  have l2 := Nat.le_of_dvd (List.length_pos_iff.mpr h') qd
  have hpq : p = q := by
    apply Nat.le_antisymm
    · exact Nat.le_of_not_lt fun z => pm q q0 z (hs ▸ qp)
    · exact Nat.le_of_not_lt fun z => qm p p0 z (hs ▸ pp)
  subst hpq
  rw [pe, qe]
  apply List.ext_getElem
  · rw [List.length_take, List.length_take]; omega
  · intro i a b
    rw [List.length_take] at a b
    have := e i
    rw [num_lt (by omega), num_lt (by omega)] at this
    simp only [List.getElem_take]
    simpa [List.getD_eq_getElem?_getD, show i < ns.length by omega, show i < ms.length by omega] using this
theorem num_rot (h : ns ≠ []) (k b : Int) : num (rot k ns) b = num ns (b + k) := by
  have h0 := List.length_pos_iff.mpr h
  have hr : rot k ns ≠ [] := fun z => by have := rot_len k ns; rw [z] at this; simp at this; omega
  have hl := mod_lt' hr b
  unfold num at *
  rw [rot_len] at *
  have p1 := Int.emod_nonneg b (show (ns.length : Int) ≠ 0 by omega)
  show (rot k ns).getD _ 0 = _
  have p2 : (((b % ns.length).toNat : Nat) : Int) = b % ns.length := Int.toNat_of_nonneg p1
  generalize hi : (b % ns.length).toNat = i at *
  have e : (rot k ns).getD i 0 = ns.getD (((i : Int) + k) % ns.length).toNat 0 := by
    unfold rot
    simp [List.getD_eq_getElem?_getD, hl]
  rw [e, p2, Int.emod_add_emod]
theorem turn_rot (h : ns ≠ []) : ns.drop 1 ++ ns.take 1 = rot 1 ns := by
  have h0 := List.length_pos_iff.mpr h
  apply List.ext_getElem
  · rw [rot_len, List.length_append, List.length_drop, List.length_take]; omega
  · intro i a b
    have hi : i < ns.length := by rwa [rot_len] at b
    have e : (rot 1 ns)[i] = ns.getD (((i : Int) + 1) % ns.length).toNat 0 := by simp [rot]
    rw [e]
    by_cases hl : i + 1 < ns.length
    · rw [List.getElem_append_left (by rw [List.length_drop]; omega), List.getElem_drop, show (((i : Int) + 1) % ns.length).toNat = i + 1 by rw [Int.emod_eq_of_lt (by omega) (by omega)]; omega]
      simp [List.getD_eq_getElem?_getD, hl, Nat.add_comm 1 i]
    · have : i + 1 = ns.length := by omega
      rw [List.getElem_append_right (by rw [List.length_drop]; omega)]
      rw [show ((i : Int) + 1) = ns.length by omega, Int.emod_self]
      simp only [List.length_drop, List.getElem_take]
      simp [List.getD_eq_getElem?_getD, h0, show i - (ns.length - 1) = 0 by omega]
theorem num_turn (h : ns ≠ []) (b : Int) : num (ns.drop 1 ++ ns.take 1) b = num ns (b + 1) := by
  rw [turn_rot h, num_rot h]
end
end Mi
end
section
set_option autoImplicit false
/-! The bench and what the law holds. -/
namespace Tx
open PySem PySem.Spec PyProof.Rows L2 Da Mi StX
/-! what is given by the carries -/
theorem range_getD {α : Type} (f : Nat → α) (d : α) {n i : Nat} (h : i < n) : ((List.range n).map f).getD i d = f i := by
  simp [List.getD_eq_getElem?_getD, h]
theorem wgh_rev (n : Nat) (f : Nat → Int) : wgh ((List.range (n + 1)).map fun i => f (n - i)) = ((List.range (n + 1)).map fun b : Nat => binI (n : Int) b * (1 - 2 * ((b : Int) % 2)) * f b).sum := by
  unfold wgh
  rw [List.length_map, List.length_range]
  refine sum_congr fun b hb => ?_
  rw [show n + 1 - 1 = n by omega, range_getD _ _ (by omega), show n - (n - b) = b by omega, Int.mul_comm (1 - _)]
theorem gave_ptg {n : Nat} {recent : List (List Int)} (h : recent.length = n) : ptg recent = gave n recent := by
  unfold ptg gave
  rw [h]
  refine sum_congr fun s _ => ?_
  exact wgh_rev s fun b => (recent.getD b []).getD s 0
/-- the signed sum of the stage s + 1 over the rows at hand -/
def sg (s : Nat) (f : Nat → Int) : Int := ((List.range (s + 1)).map fun b : Nat => binI (s : Int) b * (1 - 2 * ((b : Int) % 2)) * f b).sum
theorem binI_self1 : ∀ (s : Nat), binI (s : Int) (s + 1) = 0
  | 0 => by simp [Mi.binI]
  | s + 1 => by
    have e := binI_pascal (s : Int) (s + 1)
    rw [show ((s + 1 : Nat) : Int) = (s : Int) + 1 by omega, e, binI_self1 s]
    have : binI (s : Int) (s + 2) = 0 := by rw [Mi.binI, binI_self1 s]; simp
    rw [this]; rfl
theorem sg_succ (s : Nat) (f : Nat → Int) : sg (s + 1) f = sg s f - sg s fun b => f (b + 1) := by
  unfold sg
  rw [sum_shift]
  have e : ((List.range (s + 1)).map fun i : Nat => binI ((s + 1 : Nat) : Int) (i + 1) * (1 - 2 * (((i + 1 : Nat) : Int) % 2)) * f (i + 1)).sum = ((List.range (s + 1)).map fun i : Nat => binI (s : Int) (i + 1) * (1 - 2 * (((i + 1 : Nat) : Int) % 2)) * f (i + 1)).sum - ((List.range (s + 1)).map fun b : Nat => binI (s : Int) b * (1 - 2 * ((b : Int) % 2)) * f (b + 1)).sum := by
    rw [sum_sub]
    refine sum_congr fun i _ => ?_
    rw [show ((s + 1 : Nat) : Int) = (s : Int) + 1 by omega, binI_pascal]
    have e2 : (1 - 2 * (((i + 1 : Nat) : Int) % 2)) = -(1 - 2 * ((i : Int) % 2)) := by omega
    rw [e2, Int.add_mul, Int.add_mul, Int.mul_neg (binI _ i), Int.neg_mul]
    omega
  rw [e]
  have e3 : ((List.range (s + 1)).map fun b : Nat => binI (s : Int) b * (1 - 2 * ((b : Int) % 2)) * f b).sum + binI (s : Int) (s + 1) * (1 - 2 * (((s + 1 : Nat) : Int) % 2)) * f (s + 1) = binI (s : Int) 0 * (1 - 2 * (((0 : Nat) : Int) % 2)) * f 0 + ((List.range (s + 1)).map fun i : Nat => binI (s : Int) (i + 1) * (1 - 2 * (((i + 1 : Nat) : Int) % 2)) * f (i + 1)).sum := by
    rw [← sum_shift fun b => binI (s : Int) b * (1 - 2 * ((b : Int) % 2)) * f b, sum_range_succ _ (s + 1)]
  rw [binI_self1, Int.zero_mul, Int.zero_mul, Int.add_zero] at e3
  rw [e3]
  simp only [Mi.binI]
  omega
theorem ptg_sg (rws : List (List Int)) : ptg rws = ((List.range rws.length).map fun s => sg s fun b => (rws.getD b []).getD s 0).sum := by
  unfold ptg
  refine sum_congr fun s _ => ?_
  exact wgh_rev s fun b => (rws.getD b []).getD s 0
theorem pta_sg (rws : List (List Int)) : pta rws = ((List.range rws.length).map fun a => sg a fun b => (rws.getD b []).getD (a + 1) 0).sum := by
  unfold pta
  refine sum_congr fun a _ => ?_
  exact wgh_rev a fun b => (rws.getD b []).getD (a + 1) 0
/-- one output: the first stage's carry, and what the kept carries bring ahead -/
theorem ptg_step {n : Nat} (c : List Int) (old : List (List Int)) (h : old.length = n) : ptg (c :: old) = c.getD 0 0 + (pta ((c :: old).take n) - pta old) := by
  rw [ptg_sg, pta_sg, pta_sg, List.length_cons, List.length_take, List.length_cons, h, Nat.min_eq_left (by omega), sum_shift, sum_sub]
  congr 1
  · simp [sg, Mi.binI]
  · refine sum_congr fun s hs => ?_
    rw [sg_succ]
    congr 1
    unfold sg
    refine sum_congr fun b hb => ?_
    congr 2
    simp only [List.getD_eq_getElem?_getD, List.getElem?_take]
    rw [if_pos (by omega)]
/-! the bench's beats -/
section
variable {m : Int} {n : Nat} {s : Bs}
theorem beat_fst (late : Bool) (m : Int) : ∀ (xs : List Int) (g : Int), xs ≠ [] → (beat late m xs g).1.getD 0 0 = xs.getD 0 0 + g - (beat late m xs g).2.getD 0 0 * m
  | [], g, h => absurd rfl h
  | x :: r, g, _ => by simp [beat]
/-- a beat's output, by parts -/
theorem go_out (ok : s.Ok m n) {g : Int} {ns : List Int} (g0 : 0 ≤ g) (g1 : g ≤ m - 1) : m * ((s.go m n g ns).2 - (pta (s.go m n g ns).1.carried - pta s.carried)) = s.rests.getD 0 0 + g - (s.go m n g ns).1.rests.getD 0 0 := by
  have e := ptg_step (n := n - 1) (beat false m s.rests g).2 s.carried ok.ca.1
  have b := beat_fst false m s.rests g fun z => by have := ok.r0; have := ok.n1; rw [z] at *; simp at *; omega
  show m * (ptg ((beat false m s.rests g).2 :: s.carried) - (pta (((beat false m s.rests g).2 :: s.carried).take (n - 1)) - pta s.carried)) = s.rests.getD 0 0 + g - (beat false m s.rests g).1.getD 0 0
  rw [e, b, Int.mul_comm]
  rw [Int.add_sub_cancel]
  omega
theorem stp_rests (ok : s.Ok m n) : ∀ t, (s.stp m n t).1.rests = (s.rn m n).row t
  | 0 => rfl
  | t + 1 => by
    rw [Bs.stp, Rn.row]
    show (beat false m (s.stp m n t).1.rests _).1 = (beat false m ((s.rn m n).row t) _).1
    rw [stp_rests ok t]
    rfl
theorem rn_carr (ok : s.Ok m n) (t : Nat) : (s.rn m n).carries ((t + 1 : Nat) : Int) = (beat false m ((s.rn m n).row t) (s.cyc.getD (t % s.cyc.length) 0)).2 := by
  have okr : (s.rn m n).Ok := ok.run
  unfold Rn.carries
  rw [show ((t + 1 : Nat) : Int) - 1 = (t : Int) by omega, rests_true okr, W_nat]
  rfl
theorem stp_carried (ok : s.Ok m n) : ∀ t, (s.stp m n t).1.carried = (((List.range t).map fun (a : Nat) => (s.rn m n).carries ((t : Int) - a)) ++ s.carried).take (n - 1)
  | 0 => by
    show s.carried = _
    rw [List.range_zero, List.map_nil, List.nil_append, List.take_of_length_le (by rw [ok.ca.1]; exact Nat.le_refl _)]
  | t + 1 => by
    rw [Bs.stp]
    show ((beat false m (s.stp m n t).1.rests _).2 :: (s.stp m n t).1.carried).take (n - 1) = _
    rw [stp_carried ok t, stp_rests ok t, List.range_succ_eq_map, List.map_cons, List.map_map, List.cons_append]
    rw [show ((t + 1 : Nat) : Int) - ((0 : Nat) : Int) = ((t + 1 : Nat) : Int) by omega, rn_carr ok]
    have e : (List.range t).map ((fun (a : Nat) => (s.rn m n).carries (((t + 1 : Nat) : Int) - a)) ∘ Nat.succ) = (List.range t).map fun (a : Nat) => (s.rn m n).carries ((t : Int) - a) := by
      refine List.map_congr_left fun a _ => ?_
      show (s.rn m n).carries _ = _
      congr 1
      omega
    rw [e]
    cases n - 1 with
    | zero => rfl
    | succ k => rw [List.take_succ_cons, List.take_succ_cons, List.take_take, Nat.min_eq_left (by omega)]
theorem lcar_stp (ok : s.Ok m n) (k : Nat) : s.lcar m n k = (s.stp m n k).1.carried := by
  rw [stp_carried ok]
  unfold Bs.lcar
  by_cases h : k ≤ n - 1
  · rw [Nat.min_eq_left h]
  · rw [Nat.min_eq_right (by omega)]
    rw [List.take_append_of_le_length (by simp), List.take_append_of_le_length (by simp; omega)]
    apply List.ext_getElem
    · simp; omega
    · intro i a b
      simp
theorem stp_words (ok : s.Ok m n) : ∀ t, (s.stp m n t).1.gone = s.gone + t ∧ (s.stp m n t).1.given = s.given + (s.stp m n t).2.sum ∧ (s.stp m n t).1.cyc = s.cyc
  | 0 => ⟨by show s.gone = s.gone + (0 : Nat); omega, by show s.given = s.given + 0; omega, rfl⟩
  | t + 1 => by
    obtain ⟨a, b, c⟩ := stp_words ok t
    refine ⟨by show (s.stp m n t).1.gone + 1 = _; rw [a]; omega, ?_, rfl⟩
    show (s.stp m n t).1.given + _ = s.given + ((s.stp m n t).2 ++ [_]).sum
    rw [b, List.sum_append]
    simp [Bs.go]
    omega
/-- all inputs, telescoped -/
theorem stp_sum (ok : s.Ok m n) : ∀ t, m * ((s.stp m n t).2.sum - (pta (s.stp m n t).1.carried - pta s.carried)) = s.rests.getD 0 0 + ((List.range t).map fun i => num s.cyc (i : Nat)).sum - (s.stp m n t).1.rests.getD 0 0
  | 0 => by show m * (0 - (pta s.carried - pta s.carried)) = s.rests.getD 0 0 + 0 - s.rests.getD 0 0; rw [Int.sub_self, Int.sub_self, Int.mul_zero]; omega
  | t + 1 => by
    have ih := stp_sum ok t
    obtain ⟨ok', _⟩ := stp_ok ok t
    obtain ⟨g0, g1⟩ := cy_num ok.cy t
    have e := go_out ok' (ns := s.cyc) g0 g1
    rw [sum_range_succ, num_nat]
    generalize hq : (s.stp m n t).1.go m n (s.cyc.getD (t % s.cyc.length) 0) s.cyc = q at e
    have e1 : (s.stp m n (t + 1)).1 = q.1 := by rw [← hq]; rfl
    have e2 : (s.stp m n (t + 1)).2 = (s.stp m n t).2 ++ [q.2] := by rw [← hq]; rfl
    rw [e1, e2, List.sum_append]
    have e3 : m * ((s.stp m n t).2.sum + [q.2].sum - (pta q.1.carried - pta s.carried)) = m * ((s.stp m n t).2.sum - (pta (s.stp m n t).1.carried - pta s.carried)) + m * (q.2 - (pta q.1.carried - pta (s.stp m n t).1.carried)) := by
      rw [← Int.mul_add]
      congr 1
      simp
      omega
    rw [e3, ih, e]
    omega
/-- inputs_to is their sum -/
theorem inputs_sum {ns : List Int} (h : ns ≠ []) : ∀ t : Nat, (t : Int) / ns.length * ns.sum + (ns.take ((t : Int) % ns.length).toNat).sum = ((List.range t).map fun i => num ns (i : Nat)).sum
  | 0 => by simp
  | t + 1 => by
    have ih := inputs_sum h t
    have h0 := List.length_pos_iff.mpr h
    rw [sum_range_succ, ← ih, num_nat]
    have n0 := Int.emod_nonneg (t : Int) (show (ns.length : Int) ≠ 0 by omega)
    have n1 := Int.emod_lt_of_pos (t : Int) (show (0 : Int) < ns.length by omega)
    have ed := Int.emod_add_mul_ediv (t : Int) ns.length
    have em : ((t : Int) % ns.length).toNat = t % ns.length := rfl
    by_cases hl : t % ns.length + 1 < ns.length
    · have e1 : ((t + 1 : Nat) : Int) / ns.length = (t : Int) / ns.length := by
        rw [show ((t + 1 : Nat) : Int) = ((t : Int) % ns.length + 1) + ns.length * ((t : Int) / ns.length) by omega, Int.add_mul_ediv_left _ _ (by omega), Int.ediv_eq_zero_of_lt (by omega) (by omega), Int.zero_add]
      have e2 : ((t + 1 : Nat) : Int) % ns.length = (t : Int) % ns.length + 1 := by
        rw [show ((t + 1 : Nat) : Int) = ((t : Int) % ns.length + 1) + ns.length * ((t : Int) / ns.length) by omega, Int.add_mul_emod_self_left, Int.emod_eq_of_lt (by omega) (by omega)]
      rw [e1, e2, show ((t : Int) % ns.length + 1).toNat = t % ns.length + 1 by omega, em, List.take_succ_eq_append_getElem (by omega), List.sum_append]
      have : ns.getD (t % ns.length) 0 = ns[t % ns.length]'(by omega) := by simp [List.getD_eq_getElem?_getD, show t % ns.length < ns.length by omega]
      rw [this]
      simp
      omega
    · have hlt := Nat.mod_lt t h0
      have e0 : t % ns.length + 1 = ns.length := by omega
      have e1 : ((t + 1 : Nat) : Int) / ns.length = (t : Int) / ns.length + 1 := by
        rw [show ((t + 1 : Nat) : Int) = 0 + ns.length * ((t : Int) / ns.length + 1) by rw [Int.mul_add]; omega, Int.add_mul_ediv_left _ _ (by omega), Int.zero_ediv, Int.zero_add]
      have e2 : ((t + 1 : Nat) : Int) % ns.length = 0 := by
        rw [show ((t + 1 : Nat) : Int) = 0 + ns.length * ((t : Int) / ns.length + 1) by rw [Int.mul_add]; omega, Int.add_mul_emod_self_left, Int.zero_emod]
      rw [e1, e2, em, Int.add_mul, Int.one_mul]
      have e3 : ns.sum = (ns.take (t % ns.length)).sum + ns.getD (t % ns.length) 0 := by
        have := List.take_succ_eq_append_getElem (l := ns) (i := t % ns.length) (by omega)
        rw [e0, List.take_length] at this
        conv => lhs; rw [this]
        rw [List.sum_append]
        simp [List.getD_eq_getElem?_getD, show t % ns.length < ns.length by omega]
      rw [Int.toNat_zero, List.take_zero, List.sum_nil]
      omega
theorem lgive_stp (ok : s.Ok m n) (k : Nat) : s.lgive m n k = (s.stp m n k).2.sum := by
  have okr : (s.rn m n).Ok := ok.run
  have h := stp_sum ok k
  have m2 := ok.m2
  unfold Bs.lgive
  have e1 : (s.rn m n).inputs k = ((List.range k).map fun i => num s.cyc (i : Nat)).sum := inputs_sum ok.c0 k
  rw [e1, rests_true okr, W_nat, ← stp_rests ok k, lcar_stp ok k]
  have e2 : ((List.range k).map fun i => num s.cyc (i : Nat)).sum + s.rests.getD 0 0 - (s.stp m n k).1.rests.getD 0 0 = m * ((s.stp m n k).2.sum - (pta (s.stp m n k).1.carried - pta s.carried)) := by rw [h]; omega
  rw [e2, Int.mul_ediv_cancel_left _ (by omega)]
  omega
/-- leap is step, told at once -/
theorem leap_stp {K : PySem.W.Frag} (ok : s.Ok m n) (k : Nat) : s.leap K m n k = { s.step K m n k with words := s.words ++ [("leap" : Str)] } ∧ s.lgive m n k = (s.stp m n k).2.sum := by
  refine ⟨?_, lgive_stp ok k⟩
  have okr : (s.rn m n).Ok := ok.run
  obtain ⟨a, b, c⟩ := stp_words ok k
  unfold Bs.leap Bs.step Bs.deed
  simp only
  rw [rests_true okr, W_nat, ← stp_rests ok k, lcar_stp ok k, lgive_stp ok k, a, b]
end
end Tx
end
section
set_option autoImplicit false
/-! The bench stands as the law holds. -/
namespace Tx
open PySem PySem.Spec PyProof.Rows L2 Da Mi StX
structure Sim (m : Int) (n : Nat) (s : Bs) (h : Hd) : Prop where
  w : h.wide = m
  r : h.some_ = s.rests
  k : h.kept = s.carried
  g : h.gone = s.gone
  t : h.total = s.given
  c : s.cyc = shortest h.row
  bo : s.Ok m n
  ho : h.Ok
  z0 : 0 ≤ h.gone
  z1 : -(360 * h.gone) ≤ h.total
  z2 : h.total ≤ 360 * h.gone
theorem sum_bound {B : Int} (f : Nat → Int) : ∀ n : Nat, (∀ i, i < n → -B ≤ f i ∧ f i ≤ B) → -(B * n) ≤ ((List.range n).map f).sum ∧ ((List.range n).map f).sum ≤ B * n
  | 0, _ => by simp
  | n + 1, h => by
    obtain ⟨a, b⟩ := sum_bound f n fun i hi => h i (by omega)
    obtain ⟨c, d⟩ := h n (by omega)
    rw [sum_range_succ, show ((n + 1 : Nat) : Int) = (n : Int) + 1 by omega, Int.mul_add]
    omega
theorem binI_small : ∀ s : Fin 6, ∀ b : Fin 6, 0 ≤ Mi.binI ((s.val : Nat) : Int) b.val ∧ Mi.binI ((s.val : Nat) : Int) b.val ≤ 10 := by decide +kernel
theorem gave_bound {n : Nat} {recent : List (List Int)} (hn : n ≤ 6) (hc : Carr n n recent) : -360 ≤ gave n recent ∧ gave n recent ≤ 360 := by
  unfold gave
  have key := sum_bound (B := 60) (fun s : Nat => ((List.range (s + 1)).map fun (b : Nat) => Mi.binI s b * (1 - 2 * ((b : Int) % 2)) * (recent.getD b []).getD s 0).sum) n fun s hs => by
    have k2 := sum_bound (B := 10) (fun b : Nat => Mi.binI s b * (1 - 2 * ((b : Int) % 2)) * (recent.getD b []).getD s 0) (s + 1) fun b hb => by
      obtain ⟨b0, b1⟩ := binI_small ⟨s, by omega⟩ ⟨b, by omega⟩
      simp only at b0 b1
      obtain ⟨_, e⟩ := hc.get (i := b) (j := s) (by omega) hs
      generalize Mi.binI (s : Int) b = x at *
      have hp : (b : Int) % 2 = 0 ∨ (b : Int) % 2 = 1 := by omega
      rcases hp with hp | hp <;> rcases e with e | e <;> rw [hp, e] <;> omega
    omega
  omega
section
variable {K : PySem.W.Frag} {m : Int} {n : Nat} {s : Bs} {h : Hd}
theorem Sim.len (S : Sim m n s h) : h.some_.length = n := by rw [S.r]; exact S.bo.r0
theorem Sim.wa (S : Sim m n s h) {ws : List Str} {a : Dat} (hw : ws.length ≤ 800000) : Sim m n { s with words := ws, ahead := a } h :=
  ⟨S.w, S.r, S.k, S.g, S.t, S.c, ⟨S.bo.m2, S.bo.m9, S.bo.n1, S.bo.n6, S.bo.r0, S.bo.ri, S.bo.ca, S.bo.c0, S.bo.c9, S.bo.ci, hw⟩, S.ho, S.z0, S.z1, S.z2⟩
theorem short_cy {row : List Int} (h0 : row ≠ []) (h9 : row.length ≤ 60) (hi : In m row) : CyIn m (shortest row) := by
  obtain ⟨a, b⟩ := shortest_len h0
  exact ⟨List.length_pos_iff.mp a, by omega, fun x hx => hi x (shortest_sub hx)⟩
/-- another row -/
theorem Sim.lead (S : Sim m n s h) {row : List Int} (h0 : row ≠ []) (h9 : row.length ≤ 60) (hi : In m row) : Sim m n { s with cyc := shortest row } { h with row := row } := by
  obtain ⟨a, b, c⟩ := short_cy h0 h9 hi
  exact ⟨S.w, S.r, S.k, S.g, S.t, rfl, ⟨S.bo.m2, S.bo.m9, S.bo.n1, S.bo.n6, S.bo.r0, S.bo.ri, S.bo.ca, a, b, c, S.bo.wl⟩, ⟨S.ho.w2, S.ho.w9, h0, h9, by rw [S.w]; exact hi, S.ho.s1, S.ho.s6, S.ho.si, S.ho.kc⟩, S.z0, S.z1, S.z2⟩
/-- one beat -/
theorem Sim.one (S : Sim m n s h) {g : Int} (g0 : 0 ≤ g) (g1 : g ≤ m - 1) : Sim m n (s.go m n g s.cyc).1 (h.one g).1 ∧ (s.go m n g s.cyc).2 = (h.one g).2 := by
  have hl := S.len
  have hw := S.w
  obtain ⟨oh, oc⟩ := Hd.one_ok S.ho (g := g) g0 (by rw [hw]; exact g1)
  have ob := go_ok S.bo g0 g1 S.bo.cy
  have e : beat false h.wide h.some_ g = beat false m s.rests g := by rw [S.w, S.r]
  rw [e, hl, S.k] at oc
  have eo : (s.go m n g s.cyc).2 = (h.one g).2 := by
    show ptg ((beat false m s.rests g).2 :: s.carried) = gave h.some_.length ((beat false h.wide h.some_ g).2 :: h.kept)
    rw [gave_ptg (n := n) oc.1, e, S.k, hl]
  obtain ⟨b1, b2⟩ := gave_bound S.bo.n6 oc
  have z0 := S.z0
  have z1 := S.z1
  have z2 := S.z2
  have eg : (h.one g).2 = gave n ((beat false m s.rests g).2 :: s.carried) := by
    show gave h.some_.length ((beat false h.wide h.some_ g).2 :: h.kept) = _
    rw [e, S.k, hl]
  have et : (h.one g).1.total = h.total + (h.one g).2 := rfl
  have egn : (h.one g).1.gone = h.gone + 1 := rfl
  refine ⟨⟨S.w, ?_, ?_, ?_, ?_, S.c, ob, oh, by rw [egn]; omega, by rw [et, egn, eg]; omega, by rw [et, egn, eg]; omega⟩, eo⟩
  · show (beat false h.wide h.some_ g).1 = _
    rw [e]; rfl
  · show ((beat false h.wide h.some_ g).2 :: h.kept).take (h.some_.length - 1) = _
    rw [e, S.k, hl]; rfl
  · show h.gone + 1 = s.gone + 1
    rw [S.g]
  · rw [et, S.t, ← eo]; rfl
theorem Sim.turn (S : Sim m n s h) : Sim m n { s with cyc := shortest h.turn.row } h.turn := by
  have ok := Hd.turn_ok S.ho
  obtain ⟨a, b, c⟩ := short_cy ok.r0 ok.r9 ok.ri
  exact ⟨S.w, S.r, S.k, S.g, S.t, rfl, ⟨S.bo.m2, S.bo.m9, S.bo.n1, S.bo.n6, S.bo.r0, S.bo.ri, S.bo.ca, a, b, by rw [← S.w]; exact c, S.bo.wl⟩, ok, S.z0, S.z1, S.z2⟩
theorem Sim.steps (S : Sim m n s h) : ∀ t, Sim m n { (s.stp m n t).1 with cyc := shortest (h.steps t).1.row } (h.steps t).1 ∧ (s.stp m n t).2 = (h.steps t).2 ∧ ∀ b, num (h.steps t).1.row b = num h.row (b + t)
  | 0 => ⟨by show Sim m n { s with cyc := shortest h.row } h; rw [← S.c]; exact S, rfl, fun b => by show num h.row b = num h.row (b + (0 : Nat)); rw [show b + ((0 : Nat) : Int) = b by omega]⟩
  | t + 1 => by
    obtain ⟨S', eo, er⟩ := S.steps t
    have hr := S'.ho.r0
    have eg : (h.steps t).1.row.getD 0 0 = s.cyc.getD (t % s.cyc.length) 0 := by
      have := er 0
      rw [Int.zero_add, ← num_shortest S.ho.r0, ← S.c, num_nat] at this
      rw [← this]
      have h2 := num_nat (h.steps t).1.row 0
      rw [Nat.zero_mod] at h2
      exact h2.symm
    obtain ⟨g0, g1⟩ := cy_num S.bo.cy t
    rw [← eg] at g0 g1
    obtain ⟨T, to⟩ := S'.one g0 g1
    have T2 := T.turn
    refine ⟨?_, ?_, fun b => ?_⟩
    · rw [Hd.steps, Bs.stp]
      rw [← eg]
      exact T2
    · rw [Hd.steps, Bs.stp, ← eg]
      simp only
      rw [eo]
      congr 2
    · rw [Hd.steps]
      show num ((h.steps t).1.row.drop 1 ++ (h.steps t).1.row.take 1) b = _
      rw [num_turn hr, er]
      congr 1
      omega
theorem Sim.rot (S : Sim m n s h) (k : Nat) : shortest (rot k s.cyc) = shortest (h.steps k).1.row := by
  obtain ⟨S', _, er⟩ := S.steps k
  refine shortest_eq (fun z => ?_) S'.ho.r0 fun b => ?_
  · have := rot_len (k : Int) s.cyc
    rw [z] at this
    exact S.bo.c0 (List.length_eq_zero_iff.mp this.symm)
  · rw [num_rot S.bo.c0, er, S.c, num_shortest S.ho.r0]
theorem Sim.step (S : Sim m n s h) (k : Nat) (hw : s.words.length ≤ 700000) : Sim m n (s.step K m n k) (h.steps k).1 ∧ (s.stp m n k).2 = (h.steps k).2 := by
  obtain ⟨S', eo, _⟩ := S.steps k
  refine ⟨?_, eo⟩
  have := S'.wa (ws := s.words ++ [("step" : Str)]) (a := s.dat K) (by rw [List.length_append]; simp; omega)
  rw [← S.rot k] at this
  exact this
theorem Sim.leap (S : Sim m n s h) (k : Nat) (hw : s.words.length ≤ 700000) : Sim m n (s.leap K m n k) (h.steps k).1 ∧ s.lgive m n k = (h.steps k).2.sum := by
  obtain ⟨e1, e2⟩ := leap_stp (K := K) S.bo k
  obtain ⟨T, to⟩ := S.step (K := K) k hw
  refine ⟨?_, by rw [e2, to]⟩
  rw [e1]
  exact T.wa (a := (s.step K m n k).ahead) (by rw [List.length_append]; simp; omega)
/-- the given numbers, by single beats -/
def _root_.Mi.Hd.feed (h : Hd) (nums : List Int) : Nat → Hd × List Int
  | 0 => (h, [])
  | t + 1 =>
    let p := h.feed nums t
    let q := p.1.one (nums.getD t 0)
    (q.1, p.2 ++ [q.2])
theorem Sim.feed (S : Sim m n s h) {nums : List Int} (hn : In m nums) : ∀ t, t ≤ nums.length → Sim m n (s.fed m n nums t).1 (h.feed nums t).1 ∧ (s.fed m n nums t).2 = (h.feed nums t).2
  | 0, _ => ⟨S, rfl⟩
  | t + 1, ht => by
    obtain ⟨S', eo⟩ := S.feed hn t (by omega)
    obtain ⟨g0, g1⟩ := hn _ (Mi.getD_mem (ns := nums) (i := t) (by omega))
    obtain ⟨T, to⟩ := S'.one g0 g1
    obtain ⟨_, _, _, _, ec, _⟩ := fed_ok S.bo hn t (by omega)
    rw [ec] at T to
    exact ⟨T, by rw [Bs.fed, Hd.feed]; simp only; rw [eo, to]⟩
theorem Sim.led (S : Sim m n s h) {nums : List Int} (hn : In m nums) (hw : s.words.length ≤ 700000) : Sim m n (s.led K m n nums) (h.feed nums nums.length).1 ∧ (s.fed m n nums nums.length).2 = (h.feed nums nums.length).2 := by
  obtain ⟨S', eo⟩ := S.feed hn nums.length (Nat.le_refl _)
  exact ⟨S'.wa (by rw [List.length_append]; simp; omega), eo⟩
theorem Sim.rest (S : Sim m n s h) {k : Nat} {x : Int} (hk : k < n) (x0 : 0 ≤ x) (x1 : x ≤ m - 1) : Sim m n { s with rests := s.rests.take k ++ x :: s.rests.drop (k + 1) } { h with some_ := h.some_.take k ++ x :: h.some_.drop (k + 1) } := by
  have hl := S.len
  have hr := S.bo.r0
  have e1 : (s.rests.take k ++ x :: s.rests.drop (k + 1)).length = n := by
    rw [List.length_append, List.length_take, List.length_cons, List.length_drop]; omega
  have e2 : (h.some_.take k ++ x :: h.some_.drop (k + 1)).length = h.some_.length := by
    rw [List.length_append, List.length_take, List.length_cons, List.length_drop]; omega
  have hin : In m (s.rests.take k ++ x :: s.rests.drop (k + 1)) := fun y hy => by
    rcases List.mem_append.mp hy with hy | hy
    · exact S.bo.ri y (List.mem_of_mem_take hy)
    · rcases List.mem_cons.mp hy with rfl | hy
      · exact ⟨x0, x1⟩
      · exact S.bo.ri y (List.mem_of_mem_drop hy)
  refine ⟨S.w, by show h.some_.take k ++ x :: h.some_.drop (k + 1) = _; rw [S.r], S.k, S.g, S.t, S.c, ⟨S.bo.m2, S.bo.m9, S.bo.n1, S.bo.n6, e1, hin, S.bo.ca, S.bo.c0, S.bo.c9, S.bo.ci, S.bo.wl⟩, ⟨S.ho.w2, S.ho.w9, S.ho.r0, S.ho.r9, S.ho.ri, ?_, ?_, ?_, ?_⟩, S.z0, S.z1, S.z2⟩
  · show 1 ≤ (h.some_.take k ++ x :: h.some_.drop (k + 1)).length
    rw [e2]; exact S.ho.s1
  · show (h.some_.take k ++ x :: h.some_.drop (k + 1)).length ≤ 6
    rw [e2]; exact S.ho.s6
  · show In h.wide (h.some_.take k ++ x :: h.some_.drop (k + 1))
    rw [S.w, S.r]; exact hin
  · show Carr (h.some_.take k ++ x :: h.some_.drop (k + 1)).length ((h.some_.take k ++ x :: h.some_.drop (k + 1)).length - 1) h.kept
    rw [e2]; exact S.ho.kc
end
/-! the start -/
theorem row_fw {r : Rn} {row : List Int} (e : ∀ b, num r.lead b = num row b) : ∀ t, r.row t = fw r.late r.m row r.starts t
  | 0 => rfl
  | t + 1 => by rw [Rn.row, fw, row_fw e t, ← e, num_nat]
theorem bw_row {late : Bool} {m : Int} {lead row st : List Int} (e : ∀ b, num lead b = num row b) : ∀ j, bw late m lead st j = bw late m row st j
  | 0 => rfl
  | j + 1 => by rw [bw, bw, bw_row e j, e]
theorem Sim.start {l : Pl} (ok : l.Ok) : Sim l.wide l.some_.length (bench0 l.run) l.begun := by
  have okr := ok.run
  have okp := okr.prompted
  have en : ∀ b, num l.run.lead b = num l.row b := fun b => num_shortest ok.r0 b
  obtain ⟨p1, p2, p3, p4⟩ := prm_m l.run
  have es : l.run.prompted.starts = l.st := by
    unfold Rn.prompted Pl.st
    cases hl : l.late with
    | false => rw [if_neg (by show ¬ l.run.late = true; show ¬ l.late = true; rw [hl]; decide), if_neg (by decide)]; rfl
    | true =>
      rw [if_pos (show l.run.late = true from hl), if_pos rfl]
      unfold slowS
      refine List.map_congr_left fun k hk => ?_
      have hk := List.mem_range.mp hk
      rw [rest_true okr hk, W_nat, row_fw en]
      rw [show l.run.late = true from hl]
      rfl
  have ec : (List.range (l.run.n - 1)).map (fun (a : Nat) => l.run.prompted.carries (0 - (a : Int))) = (List.range (l.some_.length - 1)).map fun j => bc false l.wide l.row l.st j := by
    refine List.map_congr_left fun j _ => ?_
    unfold Rn.carries bc
    rw [rests_true okp, show (0 : Int) - (j : Nat) - 1 = -((j + 1 : Nat) : Int) by omega, W_neg]
    have e2 : ∀ b, num l.run.prompted.lead b = num l.row b := by rw [p3]; exact en
    rw [bw_row e2, p4, p1, es]
    show (beat false l.wide (bw false l.wide l.row l.st (j + 1)) (num l.run.prompted.lead _)).2 = _
    rw [e2, show -((j + 1 : Nat) : Int) = -(j : Int) - 1 by omega]
  have hlen := st_len l
  obtain ⟨c1, c2⟩ : l.st.length = l.some_.length ∧ True := ⟨hlen, trivial⟩
  have cy := ok.cy
  have hca : Carr l.some_.length (l.some_.length - 1) ((List.range (l.run.n - 1)).map fun (a : Nat) => l.run.prompted.carries (0 - (a : Int))) := by
    refine ⟨by simp; rfl, fun r hr => ?_⟩
    obtain ⟨a, _, rfl⟩ := List.mem_map.mp hr
    have := carries_ok okp (0 - (a : Int))
    rw [p2] at this
    exact this
  have sh := short_cy ok.r0 (by have := ok.r9; omega) ok.ri
  have hin : In l.wide l.st := by
    rw [← es]
    have := okp.si
    rw [p1] at this
    exact this
  refine ⟨rfl, ?_, ?_, rfl, rfl, ?_, ⟨ok.w2, by have := ok.w9; omega, ok.s1, ok.s6, ?_, ?_, hca, ?_, ?_, ?_, by show (0 : Nat) ≤ 800000; omega⟩, ⟨ok.w2, ok.w9, ok.r0, by show l.row.length ≤ 60; have := ok.r9; omega, ok.ri, ?_, ?_, hin, ?_⟩, Int.le_refl _, Int.le_refl _, Int.le_refl _⟩
  · exact es.symm
  · exact ec.symm
  · exact p3
  · show l.run.prompted.starts.length = _
    rw [es, hlen]
  · show In l.wide l.run.prompted.starts
    rw [es]; exact hin
  · show l.run.prompted.lead ≠ []
    rw [p3]; exact sh.1
  · show l.run.prompted.lead.length ≤ 60
    rw [p3]; exact sh.2.1
  · show In l.wide l.run.prompted.lead
    rw [p3]; exact sh.2.2
  · show 1 ≤ l.st.length
    rw [hlen]; exact ok.s1
  · show l.st.length ≤ 6
    rw [hlen]; exact ok.s6
  · show Carr l.st.length (l.st.length - 1) ((List.range (l.some_.length - 1)).map fun j => bc false l.wide l.row l.st j)
    rw [← ec, hlen]
    exact hca
end Tx
end
section
set_option autoImplicit false
namespace Tx
open PySem PySem.Spec PyProof.Rows L2 Da Mi StX NdefX
section
variable {X : Cx} {T : TL} {Γ : Gm} {M M1 M2 M3 : MM} {o i : Expr} {d d2 : Dat} {fs : List (Str × Dat)} {pos : Pos} {C q g : Addr} {n : Nat} {P : PtD}
/-- o[i] = .., by an own __setitem__ -/
theorem gx_setO (hq : PySem.W.noSeq X.K C = true) (hs : PySem.W.findIn X.K (.ref C) "__setitem__" = some (some (.ref g))) (hf : PySem.W.isFn X.K (.ref g) = true) (F : FnR X.prog X.w X.K X.mg X.base CX0 n g (spD X.K T P)) (hr : Room n X.A)
    (ho : DX X T Γ M o (.ptr q) M1) (hi : DX X T Γ M1 i d2 M2) (hm : M2 q = some (.mi C fs)) (hp : P [.ptr q, d2, d] M2 (fun _ m => m = M3))
    (ha : ∀ v, assign (.Subscript o i pos) X.env v = (do
      let ov ← holding [v] (eval o X.env)
      let iv ← holding [v, ov] (eval i X.env)
      standAt pos
      holding [v, ov, iv] (setItem ov iv v)
      release [v, ov, iv] []) := by intro _; rfl) : GX X T Γ M (.Subscript o i pos) d Γ M3 :=
  pg_w (pg_sub ho hi (Lo.set_own (E := Da.E0) hq hs hf F hr pass0) ha) fun v σ H Q ⟨D, s, l, r, k⟩ => ⟨D, s, l, fun x D1 H1 f1 r1 => ⟨D1, f1.sat, l.mono f1.ex, fun y D2 H2 f2 r2 => by
    cases r1
    obtain ⟨dx, fs', h1, q1⟩ := (f2.sat.mu _ _ hm).2
    exact ⟨q, dx, fs', rfl, h1, spD_of f2.sat (.cons .at (.cons r2 (.cons ((r.mono f1.ex).mono f2.ex) .nil))) hp fun v' d' M' D' H' hR g' _ => by
      subst hR
      exact k σ D' H' ((f1.trans f2).trans g') (((l.mono f1.ex).mono f2.ex).mono g'.ex)⟩⟩⟩
end
section
variable {Pg : Program} {w : World} {K : PySem.W.Frag} {mg : Str → Option Value} {base : Heap} {T : TL}
abbrev pPutL (K : PySem.W.Frag) : PtD := fun ds M R => ∃ q m n s k x, ds = [.ptr q, .int ((k + 1 : Nat) : Int), .int x] ∧ M q = some (ben K m n s) ∧ s.Ok m n ∧ k < n ∧ 0 ≤ x ∧ x ≤ m - 1 ∧ R .non (M.set q (ben K m n (s.deed K { s with rests := s.rests.take k ++ x :: s.rests.drop (k + 1) } "rest")))
theorem ok_put (G : Wd K mg) (F : FnT K "_law_put" "_law_put" s__law_put (He.ga K "_law_put")) (F1 : FnR Pg w K mg base CX0 5 (He.ma K (He.ga K "Bench") "__setitem__") (spD K T (pSetB K))) : FnR Pg w K mg base CX0 6 (He.ga K "_law_put") (spD K T (pPutL K)) := by
  obtain ⟨fd, F⟩ := F
  refine fd_ok F sc__law_put (F.bindsN fun _ _ _ _ _ _ us hl => match us, hl with | [_, _, _], _ => rfl) (fun ds M R h => by obtain ⟨_, _, _, _, _, _, rfl, _⟩ := h; rfl) fun cdv A outer st H E ds M R hr h => ?_
  obtain ⟨q, m, n, s, k, x, rfl, hq, ok, hk, x0, x1, h⟩ := h
  exact hs_asg (v 2) (gx_setO G.ns_Bench G.f_Bench___setitem__ G.fn_Bench___setitem__ F1 hr (v 0) (v 1) hq ⟨q, m, n, s, k, x, rfl, hq, ok, hk, x0, x1, rfl⟩) (hs_nil h)
/-- what a deed comes to -/
def DeedR (K : PySem.W.Frag) (m : Int) (n : Nat) (q qb : Addr) (s : Bs) (h : Hd) (p : Pen) (M : MM) (R : Dat → MM → Prop) : Prop :=
  ∀ s' h' p' (z : Str), Sim m n s' h' → s'.words = s.words ++ [z] → s'.ahead = s.dat K → p'.at_ ≤ p.at_ + 60 → h'.gone ≤ h.gone + 20 → PyData.canLay0 (.str z) = true → R (.tup [heldD h', .str z]) ((M.set q (penM p')).set qb (ben K m n s'))
abbrev pDeed (K : PySem.W.Frag) : PtD := fun ds M R => ∃ q qb m n s h p, ds = [.ptr q, .ptr qb, heldD h] ∧ M q = some (penM p) ∧ M qb = some (ben K m n s) ∧ Sim m n s h ∧ s.words.length ≤ 700000 ∧ p.at_ ≤ 80000 ∧ DeedR K m n q qb s h p M R
theorem steps_gone {h : Hd} : ∀ t, (h.steps t).1.gone = h.gone + t
  | 0 => by show h.gone = h.gone + (0 : Nat); omega
  | t + 1 => by
    show (h.steps t).1.gone + 1 = _
    rw [steps_gone t]; omega
theorem feed_gone {h : Hd} {nums : List Int} : ∀ t, (h.feed nums t).1.gone = h.gone + t
  | 0 => by show h.gone = h.gone + (0 : Nat); omega
  | t + 1 => by
    show (h.feed nums t).1.gone + 1 = _
    rw [feed_gone t]; omega
theorem nums_row (pn : Pen) (wide : Int) (k : Nat) : (List.range k).map (fun i => Dat.int ((pn.nums wide i).2.num wide).1) = intsD (pn.nums wide k).1 := by
  induction k with
  | zero => rfl
  | succ k ih => rw [List.range_succ, List.map_append, ih, Pen.nums]; simp [intsD]
/-- the lambda of the last way -/
def argOf (st : Stmt) : Expr := match st with
  | .Assign _ (.Call _ (a :: _) _ _) _ => a
  | _ => .Name "x" ⟨0, 0, 0, 0⟩
def lamArgs (e : Expr) : Arguments := match e with
  | .Lambda a _ _ _ => a
  | _ => { posonlyargs := [], args := [], vararg := none, kwonlyargs := [], kw_defaults := [], kwarg := none, defaults := [] }
def lamBody (e : Expr) : Expr := match e with
  | .Lambda _ b _ _ => b
  | _ => .Name "x" ⟨0, 0, 0, 0⟩
def lamScope (e : Expr) : Scope := match e with
  | .Lambda _ _ s _ => s
  | _ => ⟨.function, [], false, false, []⟩
def lamD : Expr := argOf ((defBody s__law_deed).getD 7 (.Pass ⟨0, 0, 0, 0⟩))
theorem sc_lamD : NScope ["_law_beat_so", "_law_row", "_law_begun_here"] ["_law_beat_so"] ["_law_row", "_law_begun_here"] (lamScope lamD) := nscope_by (by decide +kernel)
theorem free_lamD : ∀ y ∈ (lamScope lamD).names, y.2 = .free → (defScope s__law_deed).names.lookup y.1 = some .cell ∨ (defScope s__law_deed).names.lookup y.1 = some .free := by decide +kernel
theorem fr_lamD : ∀ y ∈ ([("_law_row" : Str), "_law_begun_here"] : List Str), (y, NameKind.free) ∈ (lamScope lamD).names := by decide +kernel
abbrev pLamD : List Dat → PtD := fun wd ds M R => ∃ (row : List Int) (g b : Int) (i : Nat), wd = [.lst (intsD row), .int g] ∧ ds = [.int b] ∧ b - g - 1 = (i : Int) ∧ i < row.length ∧ R (.int (row.getD i 0)) M
theorem ok_lamD (f : Addr) (F : NF) (e1 : F.params = lamArgs lamD) (e2 : F.scope = lamScope lamD) : LmOk Pg w K mg base T 1 f F (lamBody lamD) ["_law_row", "_law_begun_here"] pLamD := by
  obtain ⟨nm, ql, params, body, scope, cl, c⟩ := F
  simp only at e1 e2
  subst e1 e2
  refine lm_ok (F := ⟨nm, ql, lamArgs lamD, body, lamScope lamD, cl, c⟩) sc_lamD (fun pm ctv us hl => match us, hl with | [_], _ => rfl) (fun wd ds M R h => by obtain ⟨_, _, _, _, _, rfl, _⟩ := h; rfl) fun A outer st H E wd ds M R hr hlen h => ?_
  obtain ⟨row, g, b, i, rfl, rfl, hb, hi, h⟩ := h
  exact DX.toR (dx_ix (d1 := .lst (intsD row)) (v 1) (DX.cast (dx_sub (dx_sub (v 0) (v 2)) dx_int) (congrArg Dat.int hb) rfl) rfl (atI_ints (atI_pos hi))) h
theorem ok_deed {cc PP : Addr} (LT : LmT K mg base T (He.ga K "_law_deed") cc PP ((("_law_deed" : Str) ++ (".<locals>." : Str)) ++ ("<lambda>" : Str))) (G : Wd K mg) (F : FnT K "_law_deed" "_law_deed" s__law_deed (He.ga K "_law_deed")) (F1 : FnR Pg w K mg base CX0 1 (He.ga K "_law_draw") (spD K T pDraw)) (F2 : FnR Pg w K mg base CX0 2 (He.ga K "_law_pick") (spD K T pPick)) (F3 : FnR Pg w K mg base CX0 3 (He.ga K "_law_number") (spD K T pNum))
    (F4 : FnR Pg w K mg base CX0 3 (He.ga K "_law_steps") (spD K T pSteps)) (F5 : FnR Pg w K mg base CX0 8 (He.ma K (He.ga K "Bench") "step") (spD K T (pStepB K))) (F6 : FnR Pg w K mg base CX0 10 (He.ma K (He.ga K "Bench") "leap") (spD K T (pLeap K)))
    (F7 : FnR Pg w K mg base CX0 7 (He.ma K (He.ga K "Bench") "set_lead") (spD K T (pLeadB K))) (F8 : FnR Pg w K mg base CX0 6 (stG K (He.ga K "Cycle") "of") (spD K T (pCyOf K))) (F9 : FnR Pg w K mg base CX0 6 (He.ga K "_law_put") (spD K T (pPutL K)))
    (Fa : FnR Pg w K mg base CX0 2 (He.ga K "_law_gone") (spD K T pGone)) (Fb : FnL Pg w K mg base T 7 (He.ma K (He.ga K "Bench") "led") (pLed Pg w mg base T K)) :
    FnR Pg w K mg base CX0 11 (He.ga K "_law_deed") (spD K T (pDeed K)) := by
  obtain ⟨fd, F⟩ := F
  refine fd_okC LT.code F sc__law_deed (F.bindsN fun _ _ _ _ _ _ us hl => match us, hl with | [_, _, _], _ => rfl) (fun ds M R h => by obtain ⟨_, _, _, _, _, _, _, rfl, _⟩ := h; rfl) fun A outer st H E ds M R hr h => ?_
  obtain ⟨q, qb, m, n, s, h, p, rfl, hq, hqb, S, hw, hp, hR⟩ := h
  have nd := sc__law_deed.nd
  have cl := G.c_Bench.cl
  have hne : q ≠ qb := fun z => by rw [z, hqb] at hq; cases hq
  have ho := S.ho
  have hwd := S.w
  have hln := S.len
  have n1 := S.bo.n1
  have n6 := S.bo.n6
  have w2 := ho.w2
  have w9 := ho.w9
  -- the draws
  obtain ⟨a0, a1, a2⟩ := p.draw_in (many := 7) (by decide)
  generalize hp1 : (p.draw 7).2 = p1 at a2
  generalize hway : (p.draw 7).1 = way at a0 a1
  obtain ⟨b0, b1, b2⟩ := p1.draw_in (many := 20) (by decide)
  generalize hp2 : (p1.draw 20).2 = p2 at b2
  generalize hdd : (p1.draw 20).1 = dd at b0 b1
  obtain ⟨c0, c1, c2⟩ := p2.draw_in (many := 4) (by decide)
  generalize hp3 : (p2.draw 4).2 = p3 at c2
  have hn := pick_get (xs := [0, 1, 2, dd]) c0 c1
  obtain ⟨k, hk⟩ : ∃ k : Nat, [0, 1, 2, dd].getD (p2.draw 4).1.toNat (0 : Int) = (k : Int) := by
    have := hn.2
    simp only [List.mem_cons, List.not_mem_nil, or_false] at this
    exact ⟨([0, 1, 2, dd].getD (p2.draw 4).1.toNat (0 : Int)).toNat, by omega⟩
  have hk9 : k ≤ 19 := by
    have := hn.2
    rw [hk] at this
    simp only [List.mem_cons, List.not_mem_nil, or_false] at this
    omega
  refine hs_asg (DX.cast (dx_tup (ax_cons (dx_call F1 (hr.mono (by decide)) G.g__law_draw G.k__law_draw (ax_cons (v 0) (ax_cons dx_int ax_nil)) ⟨q, p, 7, rfl, hq, by decide, by decide, by omega, rfl, rfl⟩) (ax_cons (dx_ix (v 2) dx_int rfl (d := .int h.wide) rfl) (ax_cons (dx_len G.n_len (dx_ix (v 2) dx_int rfl (d := .lst (intsD h.some_)) rfl) rfl) (ax_cons
    (pickI (xs := [0, 1, 2, dd]) (w0 := w) G F2 G.g__law_pick (hr.mono (by decide)) (v 0) (DX.cast (dx_lst (ax_cons dx_int (ax_cons dx_int (ax_cons dx_int (ax_cons (dx_call F1 (hr.mono (by decide)) G.g__law_draw G.k__law_draw (ax_cons (v 0) (ax_cons dx_int ax_nil)) ⟨q, p1, 20, rfl, by rw [hp1]; exact MM.set_same, by decide, by decide, by omega, rfl, rfl⟩) ax_nil)))) (by simp)) (by rw [hdd]; rfl) (M2 := (M.set q (penM p1)).set q (penM p2)) (by rw [hp1, hp2])) MM.set_same (by simp) (by simp) (by omega)) ax_nil)))) (by simp))
    (d' := .tup [.int way, .int h.wide, .int n, .int k]) (M2 := M.set q (penM p3)) (by rw [hway, ints_len, hln]; exact congrArg (fun z => Dat.tup [.int way, .int h.wide, .int n, .int z]) hk) (by rw [MM.set_set, MM.set_set]; exact congrArg (fun z => M.set q (penM z)) hp3)) (gx_tup rfl (gxs_cons (gn 3 nd) (gxs_cons (gn 4 nd) (gxs_cons (gn 5 nd) (gxs_cons (gn 6 nd) gxs_nil))))) ?_
  have hb3 : (M.set q (penM p3)) qb = some (ben K m n s) := by rw [MM.set_ne (Ne.symm hne)]; exact hqb
  -- step
  refine hs_if (b := decide (way < 2)) (tx_lt (v 3) dx_int) (fun _ => ?_) fun _ => ?_
  · obtain ⟨T, to⟩ := S.step (K := K) k hw
    refine hs_asg (dx_call F4 (hr.mono (by decide)) G.g__law_steps G.k__law_steps (ax_cons (v 2) (ax_cons (v 6) ax_nil)) ⟨h, k, rfl, ho, by omega, rfl, rfl⟩) (gx_tup rfl (gxs_cons (gn 2 nd) (gxs_cons (gn 7 nd) gxs_nil))) ?_
    refine hs_ret (dx_if (bb := true) (tEqSame (q := .list (pyI (h.steps k).2)) hr.units (dx_meth F5 (hr.mono (by decide)) cl G.m_Bench_step (v 1) (.inr ⟨qb, _, rfl, hb3, rfl⟩) (ax_cons (v 6) ax_nil) ⟨qb, m, n, s, k, rfl, hb3, S.bo, by omega, rfl, rfl⟩) (v 7) (by rw [to]; exact py_ints _) (py_ints _) (shp_list (lay_ints _))) (fun _ => tup2 (v 2) dx_str) (fun z => nomatch z)) ?_
    exact hR _ _ p3 "step" T rfl rfl (by omega) (by rw [steps_gone]; omega) (by decide +kernel)
  refine hs_nil ?_
  -- leap
  refine hs_if (b := decide (way = 2)) (tx_eq (v 3) dx_int) (fun _ => ?_) fun _ => ?_
  · obtain ⟨T, to⟩ := S.leap (K := K) k hw
    refine hs_asg (dx_call F4 (hr.mono (by decide)) G.g__law_steps G.k__law_steps (ax_cons (v 2) (ax_cons (v 6) ax_nil)) ⟨h, k, rfl, ho, by omega, rfl, rfl⟩) (gx_tup rfl (gxs_cons (gn 2 nd) (gxs_cons (gn 7 nd) gxs_nil))) ?_
    refine hs_ret (dx_if (bb := true) (TX.cast (tx_eq (dx_meth F6 (hr.mono (by decide)) cl G.m_Bench_leap (v 1) (.inr ⟨qb, _, rfl, hb3, rfl⟩) (ax_cons (v 6) ax_nil) ⟨qb, m, n, s, k, rfl, hb3, S.bo, by omega, rfl, rfl⟩) (dx_sum rfl G.n_sum (v 7))) (decide_eq_true to)) (fun _ => tup2 (v 2) dx_str) (fun z => nomatch z)) ?_
    exact hR _ _ p3 "leap" T rfl rfl (by omega) (by rw [steps_gone]; omega) (by decide +kernel)
  refine hs_nil ?_
  -- lead
  refine hs_if (b := decide (way = 3)) (tx_eq (v 3) dx_int) (fun _ => ?_) fun _ => ?_
  · obtain ⟨d0, d1, d2⟩ := p3.draw_in (many := 4) (by decide)
    generalize hp4 : (p3.draw 4).2 = p4 at d2
    generalize hde : (p3.draw 4).1 = de at d0 d1
    obtain ⟨e1, e2, e3⟩ := p4.nums_in (wide := h.wide) w2 (1 + de).toNat
    generalize hrow : (p4.nums h.wide (1 + de).toNat).1 = row at e1 e2
    generalize hp5 : (p4.nums h.wide (1 + de).toNat).2 = p5 at e3
    have r0 : row ≠ [] := fun z => by rw [z] at e2; simp at e2; omega
    rw [hwd] at e1
    have cyr : CyIn m row := ⟨r0, by omega, e1⟩
    have csh := short_cy r0 (by omega) e1
    refine set_ 8 nd (DX.cast (dx_lc (n := (1 + de).toNat) (j := 9) (fun i => M.set q (penM (p4.nums h.wide i).2)) (fun i => .int ((p4.nums h.wide i).2.num h.wide).1) rfl nd (ixR G.n_range (DX.cast (dx_add dx_int (dx_call F1 (hr.mono (by decide)) G.g__law_draw G.k__law_draw (ax_cons (v 0) (ax_cons dx_int ax_nil)) ⟨q, p3, 4, rfl, MM.set_same, by decide, by decide, by omega, rfl, rfl⟩)) (congrArg Dat.int (by rw [hde]; omega)) (by rw [MM.set_set, hp4]; rfl)) (by omega)) rfl
      (blkOk_by (N := N__law_deed) (sc := defScope s__law_deed) (by decide +kernel)) (fun _ _ _ _ _ => pg_name nd rfl (.inl rfl)) rfl (by omega) (fun _ _ _ _ _ i hi => ?_)) (d' := .lst (intsD row)) (by rw [nums_row, hrow]) (by rw [hp5])) ?_
    · obtain ⟨g1, g2, g3⟩ := p4.nums_in (wide := h.wide) w2 i
      exact dx_call F3 (hr.mono (by decide)) G.g__law_number G.k__law_number (ax_cons (v 0) (ax_cons (v 4) ax_nil)) ⟨q, _, h.wide, rfl, MM.set_same, w2, by omega, by omega, rfl, MM.set_set⟩
    have hb5 : (M.set q (penM p5)) qb = some (ben K m n s) := by rw [MM.set_ne (Ne.symm hne)]; exact hqb
    refine hs_ret (dx_if (bb := true) (tisN (dx_meth F7 (hr.mono (by decide)) cl G.m_Bench_set_lead (v 1) (.inr ⟨qb, _, rfl, hb5, rfl⟩) (ax_cons (dx_smeth F8 (hr.mono (by decide)) G.st_of (gr G.g_Cycle) (ax_cons (v 8) ax_nil) ⟨_, row, rfl, rfl, cyr.ok (show m ≤ 1000 by omega), rfl, rfl⟩) ax_nil) ⟨qb, m, n, s, shortest row, rfl, hb5, S.bo, csh.2.2, csh.2.1, rfl, rfl⟩))
      (fun _ => tup2 (DX.cast (dx_cat (dx_lst (ax_cons (v 4) (ax_cons (v 8) ax_nil)) (by simp)) (dx_slL (v 2) (ox_some dx_int) ox_none) ?_) (d' := heldD { h with row := row }) ?_ rfl) dx_str) (fun z => nomatch z)) ?_
    · rw [show (2 : Int) = ((2 : Nat) : Int) from rfl, cutD_drop]; simp
    · rw [show (2 : Int) = ((2 : Nat) : Int) from rfl, cutD_drop]; rfl
    · exact hR _ _ p5 "lead" ((S.lead r0 (by omega) e1).wa (by rw [List.length_append]; simp; omega)) rfl rfl (by omega) (by show h.gone ≤ _; omega) (by decide +kernel)
  refine hs_nil ?_
  -- rest
  refine hs_if (b := decide (way = 4)) (tx_eq (v 3) dx_int) (fun _ => ?_) fun _ => ?_
  · obtain ⟨d0, d1, d2⟩ := p3.draw_in (many := (n : Int)) (by omega)
    generalize hp4 : (p3.draw (n : Int)).2 = p4 at d2
    generalize hde : (p3.draw (n : Int)).1 = de at d0 d1
    obtain ⟨sp, rfl⟩ := Int.eq_ofNat_of_zero_le d0
    obtain ⟨e1, e2, e3⟩ := p4.num_in (wide := h.wide) w2
    generalize hp5 : (p4.num h.wide).2 = p5 at e3
    generalize hx : (p4.num h.wide).1 = x at e1 e2
    rw [hwd] at e2
    have hb5 : (M.set q (penM p5)) qb = some (ben K m n s) := by rw [MM.set_ne (Ne.symm hne)]; exact hqb
    have T := S.rest (k := sp) (x := x) (by omega) e1 e2
    refine hs_par 10 11 rfl nd rfl rfl (by decide) rfl rfl (da := .int sp) (db := .int x) (M1 := M.set q (penM p5)) (ax_cons (DX.cast (dx_call F1 (hr.mono (by decide)) G.g__law_draw G.k__law_draw (ax_cons (v 0) (ax_cons (v 5) ax_nil)) ⟨q, p3, n, rfl, MM.set_same, by omega, by omega, by omega, rfl, rfl⟩) (congrArg Dat.int hde) (M2 := M.set q (penM p4)) (by rw [MM.set_set, hp4]))
      (ax_cons (DX.cast (dx_call F3 (hr.mono (by decide)) G.g__law_number G.k__law_number (ax_cons (v 0) (ax_cons (v 4) ax_nil)) ⟨q, p4, h.wide, rfl, MM.set_same, w2, by omega, by omega, rfl, rfl⟩) (congrArg Dat.int hx) (by rw [MM.set_set, hp5])) ax_nil)) ?_
    refine hs_expr (dx_call F9 (hr.mono (by decide)) G.g__law_put G.k__law_put (ax_cons (v 1) (ax_cons (dx_add (v 10) dx_int) (ax_cons (v 11) ax_nil))) ⟨qb, m, n, s, sp, x, rfl, hb5, S.bo, by omega, e1, e2, rfl, rfl⟩) ?_
    refine hs_ret (tup2 (DX.cast (dx_cat (dx_lst (ax_cons (v 4) (ax_cons (dx_ix (v 2) dx_int rfl (d := .lst (intsD h.row)) rfl) (ax_cons (dx_cat (dx_cat (dx_slL (dx_ix (v 2) dx_int rfl (d := .lst (intsD h.some_)) rfl) ox_none (ox_some (v 10))) (dx_lst (ax_cons (v 11) ax_nil) (by simp)) ?_) (dx_slL (dx_ix (v 2) dx_int rfl (d := .lst (intsD h.some_)) rfl) (ox_some (dx_add (v 10) dx_int)) ox_none) ?_) ax_nil))) (by simp)) (dx_slL (v 2) (ox_some dx_int) ox_none) ?_) (d' := heldD { h with some_ := h.some_.take sp ++ x :: h.some_.drop (sp + 1) }) ?_ rfl) dx_str) ?_
    · rw [cutD_take]; simp [intsD, hln]; omega
    · rw [cutD_take, show ((sp : Nat) : Int) + 1 = ((sp + 1 : Nat) : Int) by omega, cutD_drop]; simp [intsD, hln]; omega
    · rw [show (3 : Int) = ((3 : Nat) : Int) from rfl, cutD_drop]; simp
    · rw [cutD_take, show ((sp : Nat) : Int) + 1 = ((sp + 1 : Nat) : Int) by omega, cutD_drop, show (3 : Int) = ((3 : Nat) : Int) from rfl, cutD_drop, intsD_take, intsD_drop]
      simp [heldD, intsD]
    · exact hR _ _ p5 "rest" (T.wa (by rw [List.length_append]; simp; omega)) rfl rfl (by omega) (by show h.gone ≤ _; omega) (by decide +kernel)
  refine hs_nil ?_
  -- led
  obtain ⟨e1, e2, e3⟩ := p3.nums_in (wide := h.wide) w2 k
  generalize hrow : (p3.nums h.wide k).1 = row at e1 e2
  generalize hp5 : (p3.nums h.wide k).2 = p5 at e3
  rw [hwd] at e1
  subst e2
  refine hs_asgR (rx_tup (R := fun ds M' => ∃ pd, (M.set q (penM p5)) pd = none ∧ ds = [.lst (intsD row), .int h.gone, .ptr pd] ∧ M' = (M.set q (penM p5)).set pd (.ml [])) (arx_d (DX.cast (dx_lc (n := row.length) (j := 9) (fun i => M.set q (penM (p3.nums h.wide i).2)) (fun i => .int ((p3.nums h.wide i).2.num h.wide).1) rfl nd (ixR G.n_range (v 6) (by omega)) rfl
      (blkOk_by (N := N__law_deed) (sc := defScope s__law_deed) (by decide +kernel)) (fun _ _ _ _ _ => pg_name nd rfl (.inl rfl)) rfl (by omega) (fun _ _ _ _ _ i hi => ?_)) (d' := .lst (intsD row)) (by rw [nums_row, hrow]) (M2 := M.set q (penM p5)) (by rw [hp5])) (arx_d (dx_ix (v 2) dx_int rfl (d := .int h.gone) rfl) (arx_l fun pd hpd => arx_nil ⟨pd, hpd, rfl, rfl⟩))) (fun ds M' ⟨_, _, e, _⟩ => by rw [e]; simp)) ?_
  · obtain ⟨g1, g2, g3⟩ := p3.nums_in (wide := h.wide) w2 i
    exact dx_call F3 (hr.mono (by decide)) G.g__law_number G.k__law_number (ax_cons (v 0) (ax_cons (v 4) ax_nil)) ⟨q, _, h.wide, rfl, MM.set_same, w2, by omega, by omega, rfl, MM.set_set⟩
  rintro d M1 ⟨ds, rfl, pd, hpd, rfl, rfl⟩
  refine ⟨_, _, gx_tup rfl (gxs_cons (gn 8 nd) (gxs_cons (gn 12 nd) (gxs_cons (gn 7 nd) gxs_nil))), ?_⟩
  have hb5 : (M.set q (penM p5)) qb = some (ben K m n s) := by rw [MM.set_ne (Ne.symm hne)]; exact hqb
  have hbd : qb ≠ pd := fun z => by rw [← z, hb5] at hpd; cases hpd
  refine hs_for (ixLI (ns := row) (v 8)) (fun i Γ' M' => (∃ a b, Γ' = [some (.ptr q), some (.ptr qb), some (heldD (h.feed row i).1), some (.int way), some (.int h.wide), some (.int n), some (.int row.length), some (.ptr pd), some (.lst (intsD row)), none, none, none, some (.int h.gone), a, b, none]) ∧ M' = (M.set q (penM p5)).set pd (.ml (intsD (h.feed row i).2))) ⟨⟨_, _, rfl⟩, rfl⟩ ?_ ?_ rfl PassesOwn.never
  · rintro i Γ' M' hi ⟨⟨a, b, rfl⟩, rfl⟩
    obtain ⟨S', eo⟩ := S.feed e1 i (by omega)
    obtain ⟨g0, g1⟩ := e1 _ (Mi.getD_mem (ns := row) (i := i) hi)
    obtain ⟨_, _, _, wl, _, _⟩ := fed_ok S.bo e1 i (by omega)
    rw [eo] at wl
    have hwi := S'.w
    refine ⟨_, _, gn 13 nd, ?_⟩
    refine hs_asg (dx_call Fa (hr.mono (by decide)) G.g__law_gone G.k__law_gone (ax_cons (v 2) (ax_cons (v 13) ax_nil)) ⟨(h.feed row i).1, _, rfl, S'.ho, g0, by rw [hwi]; exact g1, rfl, rfl⟩) (gx_tup rfl (gxs_cons (gn 2 nd) (gxs_cons (gn 14 nd) gxs_nil))) ?_
    refine hs_expr (dx_append (q := pd) (ds := intsD (h.feed row i).2) (v 7) (v 14) MM.set_same MM.set_same (by rw [ints_len, wl]; omega)) (hs_nil ⟨⟨_, _, rfl⟩, ?_⟩)
    rw [MM.set_set, intsD_snoc]; rfl
  · rintro Γ' M' ⟨⟨a, b, rfl⟩, rfl⟩
    obtain ⟨T', to⟩ := S.led (K := K) e1 hw
    obtain ⟨_, _, _, wl, _, _⟩ := fed_ok S.bo e1 row.length (Nat.le_refl _)
    rw [to] at wl
    refine hs_fz 7 (q := pd) (mo := .ml (intsD (h.feed row row.length).2)) (Γ2 := [some (.ptr q), some (.ptr qb), some (heldD (h.feed row row.length).1), some (.int way), some (.int h.wide), some (.int n), some (.int row.length), some (.lst (intsD (h.feed row row.length).2)), some (.lst (intsD row)), none, none, none, some (.int h.gone), a, b, none]) MM.set_same rfl rfl (del2 hpd) ?_
    refine set_ 15 nd (RX.toD (rx_methLam Fb (hr.mono (by decide)) cl G.m_Bench_led (v 1) (.inr ⟨qb, _, rfl, hb5, rfl⟩) (pa_lamD (js := [8, 12]) (wd := [.lst (intsD row), .int h.gone]) LT.tb rfl LT.mem LT.uni rfl free_lamD rfl (ax_cons (v 6) ax_nil))
      fun pins s1 σ1 H1 f' c' ws I1 hws => ⟨qb, m, n, s, f', _, _, ["_law_row", "_law_begun_here"], ws, _, pLamD, row, rfl, CloSt.made I1 (Caps.made I1.ok free_lamD fr_lamD rfl) (fun _ => rfl) hws, (ok_lamD f' _ rfl rfl).mono (by decide), hb5, S.bo, e1, by omega, fun t M' ht => ⟨row, h.gone, _, t, rfl, rfl, ?_, ht, rfl, rfl⟩, rfl, rfl⟩)) ?_
    · rw [S.g]; omega
    refine hs_ret (dx_if (bb := true) (tEqSame (q := .list (pyI (h.feed row row.length).2)) hr.units (v 15) (v 7) (by rw [to]; exact py_ints _) (py_ints _) (shp_list (lay_ints _))) (fun _ => tup2 (v 2) dx_str) (fun z => nomatch z)) ?_
    exact hR _ _ p5 "led" T' rfl rfl (by omega) (by rw [feed_gone]; omega) (by decide +kernel)
end
end Tx
end
section
set_option autoImplicit false
namespace Tx
open PySem PySem.Spec PyProof.Rows L2 Da Mi StX NdefX
/-! what repr asks -/
theorem log_small {i : Int} (h : i.natAbs ≤ 400000) : i.natAbs.log2 < 1920 := by
  by_cases h0 : i.natAbs = 0
  · rw [h0]; decide
  · exact (Nat.log2_lt h0).mpr (Nat.lt_of_le_of_lt h (Nat.lt_of_lt_of_le (show 400000 < 2 ^ 19 by decide) (Nat.pow_le_pow_right (by decide) (by decide))))
theorem show_int {i : Int} (h : i.natAbs ≤ 400000) : (PyData.int i).showable = true := by
  unfold PyData.showable
  exact decide_eq_true (log_small h)
theorem show_ints : ∀ ns : List Int, (∀ i ∈ ns, i.natAbs ≤ 400000) → PyData.showableAll (pyI ns) = true ∧ PyData.hasDictAll (pyI ns) = false
  | [], _ => ⟨rfl, rfl⟩
  | n :: ns, h => by
    obtain ⟨a, b⟩ := show_ints ns fun i hi => h i (List.mem_cons_of_mem _ hi)
    have c := show_int (h n List.mem_cons_self)
    show PyData.showableAll (.int n :: pyI ns) = true ∧ PyData.hasDictAll (.int n :: pyI ns) = false
    rw [PyData.showableAll, PyData.hasDictAll, a, b, c, PyData.hasDict]
    exact ⟨rfl, rfl⟩
def pyR (rws : List (List Int)) : List PyData := rws.map fun r => .tuple (pyI r)
theorem pys_rows : ∀ rws : List (List Int), Dat.pys (rowsD rws) = some (pyR rws)
  | [] => rfl
  | r :: rws => by
    show Dat.pys (Dat.tup (intsD r) :: rowsD rws) = _
    rw [Dat.pys, pys_rows rws, py_intsT]
    rfl
theorem show_rows : ∀ rws : List (List Int), (∀ r ∈ rws, ∀ i ∈ r, i.natAbs ≤ 400000) → PyData.showableAll (pyR rws) = true ∧ PyData.hasDictAll (pyR rws) = false ∧ PyData.depthAll (pyR rws) ≤ 1
  | [], _ => ⟨rfl, rfl, by show PyData.depthAll [] ≤ 1; rw [PyData.depthAll]; decide⟩
  | r :: rws, h => by
    obtain ⟨a, b, c⟩ := show_rows rws fun i hi => h i (List.mem_cons_of_mem _ hi)
    obtain ⟨d, e⟩ := show_ints r (h r List.mem_cons_self)
    obtain ⟨_, f⟩ := lay_ints r
    show PyData.showableAll (.tuple (pyI r) :: pyR rws) = true ∧ PyData.hasDictAll (.tuple (pyI r) :: pyR rws) = false ∧ PyData.depthAll (.tuple (pyI r) :: pyR rws) ≤ 1
    rw [PyData.showableAll, PyData.hasDictAll, PyData.depthAll, a, b, PyData.showable, PyData.hasDict, PyData.depth, d, e, f]
    exact ⟨rfl, rfl, by omega⟩
theorem len_ints {ns : List Int} {n : Nat} (hn : ns.length ≤ n) (h : ∀ i ∈ ns, i.natAbs ≤ 100) : (PyData.shown (.tuple (pyI ns))).length ≤ n * 102 + 2 * n + 3 :=
  Lo.tupLen (by simpa [pyI] using hn) fun d hd => by
    obtain ⟨i, hi, rfl⟩ := List.mem_map.mp (show d ∈ ns.map PyData.int from hd)
    exact Lo.intLen (by have := h i hi; omega)
theorem sizeBig : 2000000 ≤ sizeLine := by rw [sizeLine_eq]; decide
section
variable {Pg : Program} {w : World} {K : PySem.W.Frag} {mg : Str → Option Value} {base : Heap} {T : TL}
abbrev pIs (K : PySem.W.Frag) : PtA := fun A hp H ds M R => ∃ qb m n s h, A.guards = some [] ∧ ds = [.ptr qb, heldD h] ∧ M qb = some (ben K m n s) ∧ Sim m n s h ∧ h.gone ≤ 1000 ∧ R (.bl true) M
theorem ok_is (G : Wd K mg) (F : FnT K "_law_is" "_law_is" s__law_is (He.ga K "_law_is")) (F1 : FnR Pg w K mg base CX0 1 (prG K (He.ga K "Bench") "now") (spD K T (pGet K fun s => .int s.gone))) (F2 : FnR Pg w K mg base CX0 1 (prG K (He.ga K "Bench") "given") (spD K T (pGet K fun s => .int s.given)))
    (F3 : FnR Pg w K mg base CX0 1 (prG K (He.ga K "Bench") "rests") (spD K T (pGet K fun s => .tup (intsD s.rests)))) (F4 : FnR Pg w K mg base CX0 1 (prG K (He.ga K "Bench") "carried") (spD K T (pGet K fun s => .tup (rowsD s.carried)))) (F5 : FnR Pg w K mg base CX0 1 (prG K (He.ga K "Bench") "lead_now") (spD K T (pGet K fun s => cyD K s.cyc)))
    (F6 : FnR Pg w K mg base CX0 6 (stG K (He.ga K "Cycle") "of") (spD K T (pCyOf K))) (F7 : FnR Pg w K mg base CX0 1 (He.ma K (He.ga K "Cycle") "__eq__") (spD K T fun ds M R => ∃ ns, ds = [cyD K ns, cyD K ns] ∧ R (.bl true) M)) (F8 : FnR Pg w K mg base CX0 3 (He.ma K (He.ga K "Bench") "__getitem__") (spD K T (pAtB K))) :
    FnL Pg w K mg base T 7 (He.ga K "_law_is") (pIs K) := by
  obtain ⟨fd, F⟩ := F
  refine fdA_ok F sc__law_is (F.bindsN fun _ _ _ _ _ _ us hl => match us, hl with | [_, _], _ => rfl) (fun A hh H ds M R h => by obtain ⟨_, _, _, _, _, _, rfl, _⟩ := h; rfl) fun cdv A outer st H E ds M R hr hA h => ?_
  obtain ⟨qb, m, n, s, h, hgd, rfl, hqb, S, hgo, hR⟩ := h
  have nd := sc__law_is.nd
  have cl := G.c_Bench.cl
  have bo := S.bo
  have m9 := S.ho.w9
  rw [S.w] at m9
  have z0 := S.z0
  have z1 := S.z1
  have z2 := S.z2
  have sg := S.g
  have stt := S.t
  have n6 := bo.n6
  have r0 := bo.r0
  have hin : ∀ i ∈ s.rests, i.natAbs ≤ 100 := fun i hi => by have := bo.ri i hi; omega
  have hgd2 : (cxOf CX0 Pg w K mg base N__law_is "_law_is" (defScope s__law_is) (He.ga K "_law_is") cdv A outer st H E).nox.A.guards = some [] := hgd
  obtain ⟨ki, kd⟩ := show_ints s.rests fun i hi => by have := hin i hi; omega
  obtain ⟨_, kz⟩ := lay_ints s.rests
  refine hs_asg (v 1) (gx_unl rfl (gxs_cons (gn 2 nd) (gxs_cons (gn 3 nd) (gxs_cons (gn 4 nd) (gxs_cons (gn 5 nd) (gxs_cons (gn 6 nd) (gxs_cons (gn 7 nd) gxs_nil))))))) ?_
  have pyA : Dat.py (.lst [.int s.gone, .int s.given, .tup (intsD s.rests)]) = some (.list [.int s.gone, .int s.given, .tuple (pyI s.rests)]) := by
    rw [Dat.py, Dat.pys, Dat.pys, Dat.pys, Dat.pys, py_intsT]; rfl
  have a1 : (PyData.list [.int s.gone, .int s.given, .tuple (pyI s.rests)]).showable = true := by
    rw [PyData.showable, PyData.showableAll, PyData.showableAll, PyData.showableAll, PyData.showableAll, show_int (by omega), show_int (by omega), PyData.showable, ki]; rfl
  have a2 : (PyData.list [.int s.gone, .int s.given, .tuple (pyI s.rests)]).hasDict = false := by
    rw [PyData.hasDict, PyData.hasDictAll, PyData.hasDictAll, PyData.hasDictAll, PyData.hasDictAll, PyData.hasDict, PyData.hasDict, PyData.hasDict, kd]; rfl
  have a3 : (PyData.list [.int s.gone, .int s.given, .tuple (pyI s.rests)]).shown.length ≤ sizeLine := by
    have := Lo.listLen (ds := [.int s.gone, .int s.given, .tuple (pyI s.rests)]) (n := 3) (b := 400002) (by simp) fun d hd => by
      simp only [List.mem_cons, List.not_mem_nil, or_false] at hd
      rcases hd with rfl | rfl | rfl
      · exact Lo.intLen (by omega)
      · exact Lo.intLen (by omega)
      · have := len_ints (n := 6) (by omega) hin; omega
    have := sizeBig
    omega
  have a4 : (PyData.list [.int s.gone, .int s.given, .tuple (pyI s.rests)]).depth ≤ 8 := by
    rw [PyData.depth, PyData.depthAll, PyData.depthAll, PyData.depthAll, PyData.depthAll, PyData.depth, PyData.depth, PyData.depth, kz]; decide
  refine hs_ifF (tStrNe (dx_repr hgd2 hr.units G.n_repr (dx_lst (ax_cons (dx_prop F1 (hr.mono (by decide)) cl G.p_Bench_now (v 0) (.inr ⟨qb, _, rfl, hqb⟩) ⟨qb, m, n, s, rfl, hqb, rfl, rfl⟩) (ax_cons (dx_prop F2 (hr.mono (by decide)) cl G.p_Bench_given (v 0) (.inr ⟨qb, _, rfl, hqb⟩) ⟨qb, m, n, s, rfl, hqb, rfl, rfl⟩) (ax_cons (dx_prop F3 (hr.mono (by decide)) cl G.p_Bench_rests (v 0) (.inr ⟨qb, _, rfl, hqb⟩) ⟨qb, m, n, s, rfl, hqb, rfl, rfl⟩) ax_nil))) (by simp)) rfl pyA a1 a2 a3 a4)
    (dx_repr hgd2 hr.units G.n_repr (DX.cast (dx_lst (ax_cons (v 6) (ax_cons (v 7) (ax_cons (dx_tuple G.n_tuple (v 4) rfl) ax_nil))) (by simp)) (d' := .lst [.int s.gone, .int s.given, .tup (intsD s.rests)]) (by rw [S.g, S.t, S.r]) rfl) rfl pyA a1 a2 a3 a4) (by simp)) ?_
  have kept1 : ∀ r ∈ s.carried, r.length = n ∧ ∀ i ∈ r, i.natAbs ≤ 100 := fun r hr' => by
    obtain ⟨a, b⟩ := bo.ca.2 r hr'
    exact ⟨a, fun i hi => by have := b i hi; omega⟩
  have pyB : Dat.py (.tup (rowsD s.carried)) = some (.tuple (pyR s.carried)) := by rw [Dat.py, pys_rows]; rfl
  obtain ⟨b1, b2, b3⟩ := show_rows s.carried fun r hr' i hi => by have := (kept1 r hr').2 i hi; omega
  have c1 : (PyData.tuple (pyR s.carried)).showable = true := by rw [PyData.showable]; exact b1
  have c2 : (PyData.tuple (pyR s.carried)).hasDict = false := by rw [PyData.hasDict]; exact b2
  have c3 : (PyData.tuple (pyR s.carried)).shown.length ≤ sizeLine := by
    have := Lo.tupLen (ds := pyR s.carried) (n := 6) (b := 1000) (by rw [pyR, List.length_map, bo.ca.1]; omega) fun d hd => by
      obtain ⟨r, hr', rfl⟩ := List.mem_map.mp (show d ∈ s.carried.map fun r => PyData.tuple (pyI r) from hd)
      obtain ⟨k1, k2⟩ := kept1 r hr'
      have := len_ints (n := 6) (by omega) k2
      omega
    have := sizeBig
    omega
  have c4 : (PyData.tuple (pyR s.carried)).depth ≤ 8 := by rw [PyData.depth]; omega
  have cyr : CyIn m h.row := ⟨S.ho.r0, S.ho.r9, by rw [← S.w]; exact S.ho.ri⟩
  have hkl : h.kept.length = n - 1 := by rw [S.k]; exact bo.ca.1
  refine hs_ifF ((wx_or (b1 := false) (b2 := false) (tStrNe (dx_repr hgd2 hr.units G.n_repr (dx_prop F4 (hr.mono (by decide)) cl G.p_Bench_carried (v 0) (.inr ⟨qb, _, rfl, hqb⟩) ⟨qb, m, n, s, rfl, hqb, rfl, rfl⟩) rfl pyB c1 c2 c3 c4)
    (dx_repr hgd2 hr.units G.n_repr (DX.cast (dx_tuple G.n_tuple (lcD (n := h.kept.length) (j := 8) (xs := fun i => .lst (intsD (h.kept.getD i []))) (fun i => .tup (intsD (h.kept.getD i []))) rfl nd (IX.congr (ix_list (v 5)) (by simp [rowsL]) (fun i hi => by simp [rowsL] at hi; simp [rowsL, List.getD_eq_getElem?_getD, hi])) (blkOk_by (N := N__law_is) (sc := defScope s__law_is) (by decide +kernel)) (fun _ _ _ _ _ => pg_name nd rfl (.inl rfl)) (by omega)
      fun _ _ _ _ _ i hi => dx_tuple G.n_tuple (v 8) rfl) rfl) (d' := .tup (rowsD s.carried)) ?_ rfl) rfl pyB c1 c2 c3 c4) (by simp))
    (fun _ => wx_or1 (tNeOwn (bb := true) G.c_Cycle.hm G.ne_Cycle G.f_Cycle___eq__ G.fn_Cycle___eq__ F7 (hr.mono (by decide)) (dx_prop F5 (hr.mono (by decide)) cl G.p_Bench_lead_now (v 0) (.inr ⟨qb, _, rfl, hqb⟩) ⟨qb, m, n, s, rfl, hqb, rfl, rfl⟩) (dx_smeth F6 (hr.mono (by decide)) G.st_of (gr G.g_Cycle) (ax_cons (v 3) ax_nil) ⟨_, h.row, rfl, rfl, cyr.ok (show m ≤ 1000 by omega), rfl, rfl⟩) ⟨s.cyc, by rw [S.c]; rfl, rfl, rfl⟩)) (fun z => nomatch z)).pt) ?_
  · rw [S.k]
    congr 1
    apply List.ext_getElem
    · simp [rowsD]
    · intro i a b
      have hi : i < s.carried.length := by simpa using a
      simp [rowsD, List.getD_eq_getElem?_getD, hi]
  have hl : h.some_.length = n := S.len
  refine hs_ret (dx_eqSame (q := .list (pyI h.some_)) hr.units (DX.cast (lcI (n := n) (j := 9) (fun i => s.rests.getD i 0) rfl nd (ixR G.n_range (DX.cast (dx_len G.n_len (v 4) rfl) (d' := .int (n : Nat)) (by rw [ints_len, hl]) rfl) (by omega)) (blkOk_by (N := N__law_is) (sc := defScope s__law_is) (by decide +kernel)) (fun _ _ _ _ _ => pg_name nd rfl (.inl rfl)) (by omega)
    fun _ _ _ _ _ i hi => dx_ixO G.f_Bench___getitem__ G.fn_Bench___getitem__ G.fi_Bench F8 (hr.mono (by decide)) (v 0) (dx_add (v 9) dx_int) (.inr ⟨qb, _, rfl, hqb⟩) ⟨qb, m, n, s, i, rfl, hqb, bo, hi, rfl, rfl⟩) (d' := .lst (intsD h.some_)) ?_ rfl) (v 4) (py_ints _) (py_ints _) (shp_list (lay_ints _))) hR
  rw [S.r]
  congr 2
  apply List.ext_getElem
  · simp [r0]
  · intro i a b
    have hi : i < s.rests.length := b
    simp [List.getD_eq_getElem?_getD, hi]
end
end Tx
end
section
set_option autoImplicit false
namespace Tx
open PySem PySem.Spec PyProof.Rows L2 Da Mi StX NdefX
section
variable {Pg : Program} {w : World} {K : PySem.W.Frag} {mg : Str → Option Value} {base : Heap} {T : TL}
/-- no number from 0 on to the bound -/
def OddV : V → Prop
  | .non => True
  | .int i => (decide (0 ≤ i) && decide (i ≤ 1000000000000000000000000000000)) = false
  | .str _ => True
  | _ => False
theorem kit_non_int {K : PySem.W.Frag} : PySem.W.kitOne K (.type "NoneType") (.type "int") = some false := kit_ty (by decide +kernel)
theorem kit_str_int {K : PySem.W.Frag} : PySem.W.kitOne K (.type "str") (.type "int") = some false := kit_ty (by decide +kernel)
theorem btw_odd {M : MM} {v : V} (h : OddV v) : pBtw K [.at v, .int 0, .int 1000000000000000000000000000000] M (Is (.bl false) M) := by
  cases v with
  | non => exact ⟨_, _, _, rfl, .inr ⟨_, tyd_non, kit_non_int, rfl, rfl⟩⟩
  | int i => exact ⟨_, _, _, rfl, .inl ⟨i, rfl, by rw [h], rfl⟩⟩
  | str z => exact ⟨_, _, _, rfl, .inr ⟨_, tyd_str, kit_str_int, rfl, rfl⟩⟩
  | _ => exact h.elim
/-- a leap by such a thing is refused -/
def spRef (K : PySem.W.Frag) (T : TL) : Sp := fun vs H Q E => ∃ D M q m n s v, vs = [.ref q, v] ∧ OddV v ∧ Sat K T D M H ∧ M q = some (ben K m n s) ∧
  ∀ D' H' dx, Fw K T M D H M D' H' → D' dx = some (.xd [(("value" : Str), v)]) → E (.ref (He.ga K "BadNumber")) (some dx) H'
/-- what the class of the refusal must say -/
structure ExW (Pg : Program) (w : World) (K : PySem.W.Frag) (mg : Str → Option Value) (base : Heap) (C fI : Addr) (fd : FuncData) : Prop where
  o : OexC K C
  i : PySem.W.findIn K (.ref C) "__init__" = some (some (.ref fI))
  t : PySem.W.typeIn K (.ref fI) = some (.type "function")
  f : FnOk Pg w K mg base CX0 1 fI fd ["self", "value"] (Lo.spExc K C "value")
  b : L2.Binds K fd ["self", "value"] []
theorem ok_refuse {fI : Addr} {fdI : FuncData} (G : Wd K mg) (F : FnT K "leap" "Bench.leap" s_Bench_leap (He.ma K (He.ga K "Bench") "leap")) (F1 : FnR Pg w K mg base CX0 2 (He.ga K "is_between") (spD K T (pBtw K))) (W : ExW Pg w K mg base (He.ga K "BadNumber") fI fdI) :
    FnR Pg w K mg base (L2.CX Pg w) 3 (He.ma K (He.ga K "Bench") "leap") (spRef K T) := by
  obtain ⟨fd, F⟩ := F
  have FB : FnOk Pg w K mg base (L2.CX Pg w) 3 (He.ma K (He.ga K "Bench") "leap") fd ["self", "many"] (spRef K T) := by
    refine F.ok sc_Bench_leap (fun vs H Q E ⟨_, _, _, _, _, _, _, e, _⟩ => by rw [e]; rfl) fun cdv A outer st H vs Q E hr ⟨D, M, q, m, n, s, x, e, hO, sa, hq, hE⟩ => ?_
    subst e
    have tk : Takes (cxOf (L2.CX Pg w) Pg w K mg base N_Bench_leap "Bench.leap" (defScope s_Bench_leap) (He.ma K (He.ga K "Bench") "leap") cdv A outer st H E) (fun cls d _ H => E cls d H) := takes_of (E₁ := fun e' s'' => L2.CX Pg w outer H st E e' s'') rfl rfl rfl rfl
    refine ⟨_, pss_cons (ps_if (tc := tT K T (gm0 N_Bench_leap [.ptr q, .at x]) M true M) (tnot (b := false) (tx_val (dx_call F1 hr G.g_is_between G.k_is_between (ax_cons (v 1) (ax_cons dx_int (ax_cons (gi G.i_MOST_LEAP) ax_nil))) (btw_odd hO)))) (pss_one (ps_raise rfl tk (pmk_oex (x := "BadNumber") W.o W.i W.t W.f hr W.b .nil pass0 rfl G.g_BadNumber (pa_cons (pv 1) pa_nil)))) pss_nil) pss_any, ?_⟩
    refine ⟨D, sa, sl_start (.cons .at (.cons .at .nil)), fun D1 H1 f1 => ifT ?_⟩
    refine ⟨x, rfl, show ([x] : List V).length ≤ 1000 from by simp, fun a ha => ⟨a, x, rfl, upd_same, fun dx hdx hne => ⟨rfl, dx, [("value", x)], upd_same, ?_, ?_, ?_⟩⟩⟩
    · rw [upd_ne hne, upd_same]
    · rw [upd_ne hne] at hdx; exact hdx
    · have hdx' : H1 dx = none := by rw [upd_ne hne] at hdx; exact hdx
      have f2 := f1.sat.new hdx' (.xd [(("value" : Str), x)])
      have eH : upd (del (upd (upd (upd H1 a (exo a (He.ga K "BadNumber") none)) dx (exd dx [(("value" : Str), x)])) a (exo a (He.ga K "BadNumber") (some dx))) a) dx (.xd [(("value" : Str), x)]) = upd H1 dx (.xd [(("value" : Str), x)]) := by
        funext b
        by_cases h1 : b = dx
        · rw [h1, upd_same, upd_same]
        · rw [upd_ne h1, upd_ne h1]
          by_cases h2 : b = a
          · rw [h2, del_same, ha]
          · rw [del_ne h2, upd_ne h2, upd_ne h1, upd_ne h2]
      show E _ _ (upd (del _ _) _ _)
      rw [eH]
      exact hE _ _ dx (f1.trans f2) upd_same
  exact (FB.raw (F.bindsN fun _ _ _ _ _ _ us hl => match us, hl with | [_, _], _ => rfl) .nil).imp fun vs H Q E z => by rw [List.append_nil]; exact z
end
end Tx
end
section
set_option autoImplicit false
namespace Tx
open PySem PySem.Spec PyProof.Rows L2 Da Mi StX NdefX
section
variable {Pg : Program} {w : World} {K : PySem.W.Frag} {mg : Str → Option Value} {base : Heap} {T : TL}
/-- what the refusal's class is, once it is caught -/
structure ErW (K : PySem.W.Frag) : Prop where
  xf : XfC K (He.ga K "BadNumber")
  ec : ExcC K (He.ga K "BadNumber")
  nv : PySem.W.findIn K (.ref (He.ga K "BadNumber")) "value" = some none
  exm : PySem.W.exmOne K (.ref (He.ga K "BadNumber")) (.ref (He.ga K "RestError")) = some true
  kb : PySem.W.kitOne K (.ref (He.ga K "BadNumber")) (.ref (He.ga K "BadNumber")) = some true
  kv : PySem.W.kitOne K (.ref (He.ga K "BadNumber")) (.type "ValueError") = some true
abbrev pHeard (Pg : Program) (w : World) (mg : Str → Option Value) (base : Heap) (T : TL) (K : PySem.W.Frag) (k : Nat) : PtA := fun A h H ds M R => ∃ (f : Addr) (F : NF) (body : Expr) (fr : List Str) (ws : List V) (wd : List Dat) (P : List Dat → MM → Prop) (fs : List Dat → List (Str × V)) (x : V),
  ds = [.clo f F body ws wd] ∧ CloSt A h H F fr ws ∧ Lo.LamOk Pg w K mg base (L2.CX Pg w) k f F body fr (spLmX K T P (He.ga K "BadNumber") fs) ∧ P wd M ∧ fs wd = [(("value" : Str), x)] ∧ Lo.reprOk x ∧ R (.tup [.str "number", .str (Lo.reprV x)]) M
theorem ok_heard {k : Nat} (G : Wd K mg) (E1 : ErW K) (F : FnT K "_law_heard" "_law_heard" s__law_heard (He.ga K "_law_heard")) : FnL Pg w K mg base T (k + 1) (He.ga K "_law_heard") (pHeard Pg w mg base T K k) := by
  obtain ⟨fd, F⟩ := F
  refine fdA_ok F sc__law_heard (F.bindsN fun _ _ _ _ _ _ us hl => match us, hl with | [_], _ => rfl) (fun A hh H ds M R h => by obtain ⟨_, _, _, _, _, _, _, _, _, rfl, _⟩ := h; rfl) fun cdv A outer st H E ds M R hr hA h => ?_
  obtain ⟨f, FF, body, fr, ws, wd, P, fs, x, rfl, hC, hL, hP, hfs, hro, h⟩ := h
  have nd := sc__law_heard.nd
  refine set_ 1 nd dx_non ?_
  refine hs_tryAs (i := 2) (ia := 0) (iy := 1) (c := .ref (He.ga K "RestError")) rfl rfl rfl nd rfl rfl ⟨rfl, rfl, .inl G.g_RestError⟩ E1.exm rfl hL hr hA hC rfl (.inl rfl) rfl hP (by show 2 < 4; decide) rfl rfl fun a dd => ?_
  rw [hfs]
  refine hs_setR 3 nd rfl (.inl rfl) (rx_lst ax_nil) ?_
  rintro d M1 ⟨p, hp, rfl, rfl⟩
  refine hs_if (b := true) (tx_val (dx_isE E1.ec G.n_isinstance (v 1) (gr G.g_BadNumber) (fun _ z => z) E1.kb)) (fun _ => ?_) (fun z => nomatch z)
  refine hs_expr (dx_append (q := p) (ds := []) (v 3) (tup2 dx_str (dx_reprA G.n_repr (dx_xval E1.xf E1.nv (v 1) rfl) hro)) MM.set_same MM.set_same (by simp)) (hs_nil ?_)
  refine hs_fz 3 (q := p) (mo := .ml [.tup [.str "number", .str (Lo.reprV x)]]) (Γ2 := [some (.clo f FF body ws wd), some (caught a dd (He.ga K "BadNumber") [(("value" : Str), x)]), none, some (.lst [.tup [.str "number", .str (Lo.reprV x)]])]) MM.set_same rfl rfl (Mq := M) ?_ ?_
  · rw [MM.set_set, MM.del_set hp]
  refine hs_ret (dx_if (bb := true) (wx_and (b1 := true) (b2 := true) (TX.cast (tx_eq (dx_len G.n_len (v 3) rfl) dx_int) rfl) (fun _ => wx_and1 (tx_val (dx_isE E1.ec G.n_isinstance (v 1) (bty G.n_ValueError bt_ve) (fun _ z => z) E1.kv))) (fun z => nomatch z)).pt (fun _ => dx_ix (v 3) dx_int rfl rfl) (fun z => nomatch z)) h
end
end Tx
end
section
set_option autoImplicit false
namespace Tx
open PySem PySem.Spec PyProof.Rows L2 Da Mi StX NdefX
section
variable {Pg : Program} {w : World} {K : PySem.W.Frag} {mg : Str → Option Value} {base : Heap} {T : TL}
/-- the two lambdas -/
def lamT : Expr := argOf ((defBody s__law_tried_so).getD 0 (.Pass ⟨0, 0, 0, 0⟩))
def lamH : Expr := match (defBody s__law_tried_so).getD 2 (.Pass ⟨0, 0, 0, 0⟩) with
  | .Return (some (.BoolOp _ (_ :: .Compare (.Call _ (a :: _) _ _) _ _ _ :: _) _)) _ => a
  | _ => .Name "x" ⟨0, 0, 0, 0⟩
theorem sc_lamT : NScope ["_law_same", "_law_pen_here", "_law_held"] ["_law_same"] ["_law_pen_here", "_law_held"] (lamScope lamT) := nscope_by (by decide +kernel)
theorem sc_lamH : NScope ["_law_bench", "_law_odd"] [] ["_law_bench", "_law_odd"] (lamScope lamH) := nscope_by (by decide +kernel)
theorem free_lamT : ∀ y ∈ (lamScope lamT).names, y.2 = .free → (defScope s__law_tried_so).names.lookup y.1 = some .cell ∨ (defScope s__law_tried_so).names.lookup y.1 = some .free := by decide +kernel
theorem free_lamH : ∀ y ∈ (lamScope lamH).names, y.2 = .free → (defScope s__law_tried_so).names.lookup y.1 = some .cell ∨ (defScope s__law_tried_so).names.lookup y.1 = some .free := by decide +kernel
theorem fr_lamT : ∀ y ∈ ([("_law_pen_here" : Str), "_law_held"] : List Str), (y, NameKind.free) ∈ (lamScope lamT).names := by decide +kernel
theorem fr_lamH : ∀ y ∈ ([("_law_bench" : Str), "_law_odd"] : List Str), (y, NameKind.free) ∈ (lamScope lamH).names := by decide +kernel
abbrev pLamT (K : PySem.W.Frag) : List Dat → PtD := fun wd ds M R => ∃ q d qb, wd = [.ptr q, d] ∧ ds = [.ptr qb] ∧ pDeed K [.ptr q, .ptr qb, d] M R
theorem ok_lamT (G : Wd K mg) (FD : FnR Pg w K mg base CX0 11 (He.ga K "_law_deed") (spD K T (pDeed K))) (f : Addr) (F : NF) (e1 : F.params = lamArgs lamT) (e2 : F.scope = lamScope lamT) : LmOk Pg w K mg base T 12 f F (lamBody lamT) ["_law_pen_here", "_law_held"] (pLamT K) := by
  obtain ⟨nm, ql, params, body, scope, cl, c⟩ := F
  simp only at e1 e2
  subst e1 e2
  refine lm_ok (F := ⟨nm, ql, lamArgs lamT, body, lamScope lamT, cl, c⟩) sc_lamT (fun pm ctv us hl => match us, hl with | [_], _ => rfl) (fun wd ds M R h => by obtain ⟨_, _, _, _, rfl, _⟩ := h; rfl) fun A outer st H E wd ds M R hr hlen h => ?_
  obtain ⟨q, d, qb, rfl, rfl, h⟩ := h
  exact rx_call FD hr G.g__law_deed G.k__law_deed (ax_cons (v 1) (ax_cons (v 0) (ax_cons (v 2) ax_nil))) h
abbrev pLamH (K : PySem.W.Frag) : List Dat → MM → Prop := fun wd M => ∃ q m n s x, wd = [.ptr q, .at x] ∧ OddV x ∧ M q = some (ben K m n s)
def fsH (wd : List Dat) : List (Str × V) := [(("value" : Str), match wd with | [_, .at x] => x | _ => .non)]
theorem ok_lamH (G : Wd K mg) (FR : FnR Pg w K mg base (L2.CX Pg w) 3 (He.ma K (He.ga K "Bench") "leap") (spRef K T)) (f : Addr) (F : NF) (e1 : F.params = lamArgs lamH) (e2 : F.scope = lamScope lamH) :
    Lo.LamOk Pg w K mg base (L2.CX Pg w) 4 f F (lamBody lamH) ["_law_bench", "_law_odd"] (spLmX K T (pLamH K) (He.ga K "BadNumber") fsH) := by
  obtain ⟨nm, ql, params, body, scope, cl, c⟩ := F
  simp only at e1 e2
  subst e1 e2
  refine Lo.lamOk_of (F := ⟨nm, ql, lamArgs lamH, body, lamScope lamH, cl, c⟩) sc_lamH (fun pm ctv us hl => match us, hl with | [], _ => rfl) (fun wo vs H Q E ⟨_, _, _, _, _, e, _⟩ => by rw [e]; rfl) fun A outer st H vs wo Q E hr hlen ⟨D, M, ws, wd, e1, e2, sa, rw', ⟨q, m, n, s, x, ew, hO, hq⟩, kk⟩ => ?_
  subst ew e1 e2
  obtain ⟨y, z, rfl, ry, rz⟩ := reps2 rw'
  cases ry
  cases rz
  have tk : Takes (ncx (L2.CX Pg w) Pg w K mg base ["_law_bench", "_law_odd"] ⟨nm, ql, lamArgs lamH, body, lamScope lamH, cl, c⟩ f A outer st H E) (fun cls d _ H => E cls d H) := takes_of (E₁ := fun e' s'' => L2.CX Pg w outer H st E e' s'') rfl rfl rfl rfl
  refine ⟨_, pe_methR (E := E) (pv 0) G.c_Bench.cl G.m_Bench_leap FR hr (passes_call tk fun _ _ _ _ h => h) (pa_cons (pv 1) pa_nil), ?_⟩
  obtain ⟨dx, fs, h1, r1⟩ := (sa.mu _ _ hq).2
  exact ⟨.ref q, rfl, q, dx, fs, rfl, h1, r1.lookup_none rfl, x, rfl, D, M, q, m, n, s, x, rfl, hO, sa, hq, kk⟩
end
end Tx
end
section
set_option autoImplicit false
namespace Tx
open PySem PySem.Spec PyProof.Rows L2 Da Mi StX NdefX
section
variable {Pg : Program} {w : World} {K : PySem.W.Frag} {mg : Str → Option Value} {base : Heap} {T : TL}
def oddL : List V := [.non, .int (-1), .int (10 ^ 31), .str "1"]
theorem odd_all : ∀ i : Nat, i < 4 → OddV (oddL.getD i .non) ∧ Lo.reprOk (oddL.getD i .non) ∧ PyData.canLay0 (.str (Lo.reprV (oddL.getD i .non))) = true
  | 0, _ => ⟨trivial, trivial, by decide +kernel⟩
  | 1, _ => ⟨show (decide ((0 : Int) ≤ -1) && decide ((-1 : Int) ≤ 1000000000000000000000000000000)) = false by decide +kernel, show (-1 : Int).natAbs.log2 < 1920 by decide +kernel, by decide +kernel⟩
  | 2, _ => ⟨show (decide ((0 : Int) ≤ 10 ^ 31) && decide ((10 : Int) ^ 31 ≤ 1000000000000000000000000000000)) = false by decide +kernel, show ((10 : Int) ^ 31).natAbs.log2 < 1920 by decide +kernel, by decide +kernel⟩
  | 3, _ => ⟨trivial, by rw [show oddL.getD 3 .non = V.str "1" from rfl]; unfold Lo.reprOk; rw [sizeLine_eq]; decide +kernel, by decide +kernel⟩
abbrev pTriedSo (K : PySem.W.Frag) : PtA := fun A hp H ds M R => ∃ q qb m n s h p, A.guards = some [] ∧ ds = [.ptr q, .ptr qb, heldD h] ∧ M q = some (penM p) ∧ M qb = some (ben K m n s) ∧ Sim m n s h ∧ s.words.length ≤ 700000 ∧ p.at_ ≤ 80000 ∧ h.gone ≤ 1000 ∧
  ∀ p' : Pen, p'.at_ ≤ p.at_ + 61 → R (.bl true) (M.set q (penM p'))
theorem ok_tried_so {cc PP : Addr} (LT : LmT K mg base T (He.ga K "_law_tried_so") cc PP ((("_law_tried_so" : Str) ++ (".<locals>." : Str)) ++ ("<lambda>" : Str))) (G : Wd K mg) (F : FnT K "_law_tried_so" "_law_tried_so" s__law_tried_so (He.ga K "_law_tried_so"))
    (FD : FnR Pg w K mg base CX0 11 (He.ga K "_law_deed") (spD K T (pDeed K))) (FT : FnL Pg w K mg base T 13 (He.ma K (He.ga K "Bench") "tried") (pTried Pg w mg base T K 12)) (FP : FnR Pg w K mg base CX0 2 (He.ga K "_law_pick") (spD K T pPick))
    (FH : FnL Pg w K mg base T 5 (He.ga K "_law_heard") (pHeard Pg w mg base T K 4)) (FR : FnR Pg w K mg base (L2.CX Pg w) 3 (He.ma K (He.ga K "Bench") "leap") (spRef K T)) (FI : FnL Pg w K mg base T 7 (He.ga K "_law_is") (pIs K)) :
    FnL Pg w K mg base T 14 (He.ga K "_law_tried_so") (pTriedSo K) := by
  obtain ⟨fd, F⟩ := F
  refine fdA_okC LT.code F sc__law_tried_so (F.bindsN fun _ _ _ _ _ _ us hl => match us, hl with | [_, _, _], _ => rfl) (fun A hh H ds M R h => by obtain ⟨_, _, _, _, _, _, _, _, rfl, _⟩ := h; rfl) fun A outer st H E ds M R hr hA h => ?_
  obtain ⟨q, qb, m, n, s, h, p, hgd, rfl, hq, hqb, S, hw, hp, hgo, hR⟩ := h
  have nd := sc__law_tried_so.nd
  have cl := G.c_Bench.cl
  have hne : q ≠ qb := fun z => by rw [z, hqb] at hq; cases hq
  refine hs_setR 3 nd rfl (.inl rfl) (Rx := fun d M' => d.isNon = false ∧ ∃ p' : Pen, p'.at_ ≤ p.at_ + 60 ∧ M' = M.set q (penM p')) (rx_methLam FT hr cl G.m_Bench_tried (v 1) (.inr ⟨qb, _, rfl, hqb, rfl⟩) (pa_lamD (js := [0, 2]) (wd := [.ptr q, heldD h]) LT.tb rfl LT.mem LT.uni rfl free_lamT rfl ax_nil)
    fun pins s1 σ1 H1 f' c' ws I1 hws => ⟨qb, m, n, s, f', _, _, ["_law_pen_here", "_law_held"], ws, _, pLamT K, rfl, CloSt.made I1 (Caps.made I1.ok free_lamT fr_lamT rfl) (fun _ => rfl) hws, ok_lamT G FD f' _ rfl rfl, hqb, q, heldD h, qb, rfl, rfl, q, qb, m, n, s, h, p, rfl, hq, hqb, S, hw, hp, fun s' h' p' z _ _ _ hp' _ _ => ⟨s', MM.set_same, rfl, p', hp', ?_⟩⟩) ?_
  · rw [MM.set_set, MM.set_self]
    rw [MM.set_ne (Ne.symm hne)]; exact hqb
  rintro d M1 ⟨hd, p1, hp1, rfl⟩
  have hb1 : (M.set q (penM p1)) qb = some (ben K m n s) := by rw [MM.set_ne (Ne.symm hne)]; exact hqb
  obtain ⟨c0, c1, c2⟩ := p1.draw_in (many := 4) (by decide)
  generalize hp2 : (p1.draw 4).2 = p2 at c2
  generalize hde : (p1.draw 4).1 = de at c0 c1
  obtain ⟨o1, o2, o3⟩ := odd_all de.toNat (by omega)
  generalize hx : oddL.getD de.toNat .non = x at o1 o2 o3
  refine set_ 4 nd (DX.cast (dx_call FP (hr.mono (by decide)) G.g__law_pick G.k__law_pick (ax_cons (v 0) (ax_cons (dx_lst (ds := oddL.map Dat.at) (ax_cons dx_non (ax_cons (dx_neg dx_int) (ax_cons (dx_pow dx_int dx_int ?_) (ax_cons dx_str ax_nil))))) ax_nil)) ⟨q, p1, oddL.map Dat.at, rfl, MM.set_same, by decide, by decide, by omega, rfl, rfl⟩) (d' := .at x) (M2 := M.set q (penM p2)) ?_ ?_) ?_
  · exact ⟨by decide, by decide, by decide⟩
  · have hl : de.toNat < 4 := by omega
    rw [← hx, show (p1.draw (oddL.map Dat.at).length).1 = de from hde]
    have : ∀ i : Nat, i < 4 → (oddL.map Dat.at).getD i .non = .at (oddL.getD i .non) := fun i hi => match i, hi with
      | 0, _ => rfl
      | 1, _ => rfl
      | 2, _ => rfl
      | 3, _ => rfl
    exact this _ hl
  · rw [MM.set_set, ← hp2]; rfl
  have hb2 : (M.set q (penM p2)) qb = some (ben K m n s) := by rw [MM.set_ne (Ne.symm hne)]; exact hqb
  refine hs_ret (dx_and (b1 := true) (DX.cast (dx_notN (v 3)) (by rw [hd]; rfl) rfl) (fun _ => dx_and (b1 := true) (dx_eqSame (q := .tuple [.str "number", .str (Lo.reprV x)]) (d1 := .tup [.str "number", .str (Lo.reprV x)]) (d2 := .tup [.str "number", .str (Lo.reprV x)]) hr.units (RX.toD (rx_callLamA FH (hr.mono (by decide)) G.g__law_heard G.k__law_heard (pa_lamD (js := [1, 4]) (wd := [.ptr qb, .at x]) LT.tb rfl LT.mem LT.uni rfl free_lamH rfl ax_nil)
      fun pins s1 σ1 H1 f' c' ws I1 hws => ⟨f', _, _, ["_law_bench", "_law_odd"], ws, _, pLamH K, fsH, x, rfl, CloSt.made I1 (Caps.made I1.ok free_lamH fr_lamH rfl) (fun _ => rfl) hws, ok_lamH G FR f' _ rfl rfl, ⟨qb, m, n, s, x, rfl, o1, hb2⟩, rfl, o2, rfl, rfl⟩)) (tup2 dx_str (dx_reprA G.n_repr (v 4) o2)) rfl rfl ?_)
    (fun _ => dx_one (RX.toD (rx_callA FI (hr.mono (by decide)) G.g__law_is G.k__law_is (ax_cons (v 1) (ax_cons (v 2) ax_nil)) fun pins s1 σ1 H1 I1 => ⟨qb, m, n, s, h, hgd, rfl, hb2, S, hgo, rfl, rfl⟩))) (fun z => nomatch z)) (fun z => nomatch z)) (hR p2 (by omega))
  refine shp_tup ?_
  rw [PyData.canLayAll0, PyData.canLayAll0, PyData.canLayAll0, o3, PyData.depthAll, PyData.depthAll, PyData.depthAll, PyData.depth, PyData.depth]
  exact ⟨by decide +kernel, by decide⟩
end
end Tx
end
section
set_option autoImplicit false
namespace Tx
open PySem PySem.Spec PyProof.Rows L2 Da Mi StX NdefX
/-- what the notes tell of the deeds that can be undone -/
inductive Ch (K : PySem.W.Frag) (m : Int) (n : Nat) (h0 : Hd) : Bs → List Hd → Prop
  | nil {s : Bs} : s.words = [] → Sim m n s h0 → Ch K m n h0 s []
  | snoc {s prev : Bs} {hs : List Hd} {h : Hd} {z : Str} : s.ahead = prev.dat K → s.words = prev.words ++ [z] → PyData.canLay0 (.str z) = true → Sim m n prev h → Ch K m n h0 prev hs → Ch K m n h0 s (hs ++ [h])
theorem Ch.lay {K : PySem.W.Frag} {m : Int} {n : Nat} {h0 : Hd} {s : Bs} {hs : List Hd} (c : Ch K m n h0 s hs) : ∀ z ∈ s.words, PyData.canLay0 (.str z) = true := by
  induction c with
  | nil e _ => rw [e]; intro z hz; cases hz
  | snoc _ e hl _ _ ih =>
    rw [e]
    intro z hz
    rcases List.mem_append.mp hz with hz | hz
    · exact ih z hz
    · rw [List.mem_singleton.mp hz]; exact hl
theorem Ch.len {K : PySem.W.Frag} {m : Int} {n : Nat} {h0 : Hd} {s : Bs} {hs : List Hd} (c : Ch K m n h0 s hs) : hs.length = s.words.length := by
  induction c with
  | nil e _ => rw [e]; rfl
  | snoc _ e _ _ _ ih => rw [e, List.length_append, List.length_append, ih]; rfl
abbrev heldsD (hs : List Hd) : List Dat := hs.map heldD
/-- between the turns -/
structure RI (K : PySem.W.Frag) (q qb pn pw : Addr) (m : Int) (n : Nat) (h0 : Hd) (p0 : Pen) (i : Nat) (M : MM) (s : Bs) (h : Hd) (p : Pen) (hs : List Hd) : Prop where
  mq : M q = some (penM p)
  mb : M qb = some (ben K m n s)
  mn : M pn = some (.ml (heldsD hs))
  mw : M pw = some (.ml (strsD s.words))
  S : Sim m n s h
  C : Ch K m n h0 s hs
  wl : s.words.length ≤ i
  pl : p.at_ ≤ p0.at_ + 62 * i
  g : h.gone ≤ 20 * i
  gs : ∀ x ∈ hs, x.gone ≤ 20 * i
/-- behind the turns -/
structure RJ (K : PySem.W.Frag) (q qb pn pw : Addr) (m : Int) (n : Nat) (h0 : Hd) (p0 : Pen) (M : MM) (s : Bs) (p : Pen) (hs : List Hd) : Prop where
  mq : M q = some (penM p)
  mb : M qb = some (ben K m n s)
  mn : M pn = some (.ml (heldsD hs))
  mw : M pw = some (.ml (strsD s.words))
  C : Ch K m n h0 s hs
  wl : s.words.length ≤ 12
  pl : p.at_ ≤ p0.at_ + 62 * 12
  gs : ∀ x ∈ hs, x.gone ≤ 20 * 12
section
variable {Pg : Program} {w : World} {K : PySem.W.Frag} {mg : Str → Option Value} {base : Heap} {T : TL}
abbrev pRight (K : PySem.W.Frag) : PtA := fun A hp H ds M R => ∃ (q : Addr) (l : Pl) (p : Pen), A.guards = some [] ∧ ds = [.ptr q, l.dat] ∧ l.Ok ∧ M q = some (penM p) ∧ p.at_ ≤ 70000 ∧ ∀ (p' : Pen) (M' : MM), M' q = some (penM p') → p'.at_ ≤ p.at_ + 800 → R (.bl true) M'
theorem ok_right (G : Wd K mg) (F : FnT K "_law_right" "_law_right" s__law_right (He.ga K "_law_right")) (F1 : FnR Pg w K mg base CX0 10 (He.ma K (He.ga K "Bench") "__init__") (spD K T (pBench K))) (F2 : FnR Pg w K mg base CX0 9 (He.ga K "_law_run") (spD K T (pLRun K))) (F3 : FnR Pg w K mg base CX0 3 (He.ga K "_law_begun") (spD K T pBegun))
    (F4 : FnR Pg w K mg base CX0 1 (He.ga K "_law_draw") (spD K T pDraw)) (F5 : FnR Pg w K mg base CX0 1 (He.ma K (He.ga K "Bench") "undo") (spD K T (pUndo K))) (F6 : FnR Pg w K mg base CX0 13 (He.ma K (He.ga K "Bench") "twin") (spD K T (pTwin K))) (F7 : FnR Pg w K mg base CX0 11 (He.ga K "_law_deed") (spD K T (pDeed K)))
    (F8 : FnL Pg w K mg base T 7 (He.ga K "_law_is") (pIs K)) (F9 : FnR Pg w K mg base CX0 1 (prG K (He.ga K "Bench") "past") (spD K T (pGet K fun s => .tup (strsD s.words)))) (Fa : FnL Pg w K mg base T 14 (He.ga K "_law_tried_so") (pTriedSo K)) (Fb : FnR Pg w K mg base CX0 1 (He.ma K (He.ga K "Bench") "__len__") (spD K T (pGet K fun s => .int (s.words.length : Nat)))) :
    FnL Pg w K mg base T 15 (He.ga K "_law_right") (pRight K) := by
  obtain ⟨fd, F⟩ := F
  refine fdA_ok F sc__law_right (F.bindsN fun _ _ _ _ _ _ us hl => match us, hl with | [_, _], _ => rfl) (fun A hh H ds M R h => by obtain ⟨_, _, _, _, rfl, _⟩ := h; rfl) fun cdv A outer st H E ds M R hr hA h => ?_
  obtain ⟨q, l, p0, hgd, rfl, lok, hq, hp, hR⟩ := h
  have nd := sc__law_right.nd
  have cl := G.c_Bench.cl
  have hgd2 : (cxOf CX0 Pg w K mg base N__law_right "_law_right" (defScope s__law_right) (He.ga K "_law_right") cdv A outer st H E).nox.A.guards = some [] := hgd
  refine hs_parR 2 3 rfl nd rfl rfl (by decide) rfl rfl (R := fun ds M' => ∃ qb, M qb = none ∧ ds = [.ptr qb, heldD l.begun] ∧ M' = M.set qb (ben K l.wide l.some_.length (bench0 l.run))) (arx_cons (rx_make F1 (hr.mono (by decide)) G.mk_Bench G.g_Bench (ax_cons (dx_call F2 (hr.mono (by decide)) G.g__law_run G.k__law_run (ax_cons (v 1) ax_nil) ⟨l, rfl, lok, rfl, rfl⟩) ax_nil)
    (R := fun d M' => ∃ qb, M qb = none ∧ d = .ptr qb ∧ M' = M.set qb (ben K l.wide l.some_.length (bench0 l.run))) fun a ha => ⟨a, l.run, rfl, MM.set_same, lok.run, rfl, a, ha, rfl, by rw [MM.set_set]; rfl⟩) fun d M1 hd => by
      obtain ⟨qb, h1, rfl, rfl⟩ := hd
      exact arx_d (dx_call F3 (hr.mono (by decide)) G.g__law_begun G.k__law_begun (ax_cons (v 1) ax_nil) ⟨l, rfl, lok, rfl, rfl⟩) (arx_nil ⟨qb, h1, rfl, rfl⟩)) ?_ (fun ds M' ⟨_, _, e, _⟩ => by rw [e]; rfl)
  rintro da db M1 ⟨qb, hqb, e, rfl⟩
  cases e
  have hne : q ≠ qb := fun z => by rw [z, hqb] at hq; cases hq
  refine hs_parR 4 5 rfl nd rfl rfl (by decide) rfl rfl (R := fun ds M' => ∃ pn pw, (M.set qb (ben K l.wide l.some_.length (bench0 l.run))) pn = none ∧ ((M.set qb (ben K l.wide l.some_.length (bench0 l.run))).set pn (.ml [])) pw = none ∧ ds = [.ptr pn, .ptr pw] ∧ M' = ((M.set qb (ben K l.wide l.some_.length (bench0 l.run))).set pn (.ml [])).set pw (.ml []))
    (arx_l fun pn hpn => arx_l fun pw hpw => arx_nil ⟨pn, pw, hpn, hpw, rfl, rfl⟩) ?_ (fun ds M' ⟨_, _, _, _, e, _⟩ => by rw [e]; rfl)
  rintro da db M1 ⟨pn, pw, hpn, hpw, e, rfl⟩
  cases e
  have S0 := Sim.start lok
  generalize hm : l.wide = m at *
  generalize hn : l.some_.length = n at *
  generalize hb0 : bench0 l.run = b0 at *
  generalize hh0 : l.begun = h0 at *
  have b0w : b0.words = [] := by rw [← hb0]; rfl
  have g0 : h0.gone = 0 := by rw [← hh0]; rfl
  have qbn : pn ≠ qb := fun z => by rw [z, MM.set_same] at hpn; cases hpn
  have pwn : pw ≠ pn := fun z => by rw [z, MM.set_same] at hpw; cases hpw
  have pwb : pw ≠ qb := fun z => by rw [MM.set_ne pwn, z, MM.set_same] at hpw; cases hpw
  have hq1 : (M.set qb (ben K m n b0)) q = some (penM p0) := by rw [MM.set_ne hne]; exact hq
  have qn : pn ≠ q := fun z => by rw [z, hq1] at hpn; cases hpn
  have qw : pw ≠ q := fun z => by rw [MM.set_ne pwn, z, hq1] at hpw; cases hpw
  refine hs_for (ixR (n := 12) G.n_range dx_int (by omega)) (fun i Γ' M' => ∃ s h p hs a b c d, Γ' = [some (.ptr q), some l.dat, some (.ptr qb), some (heldD h), some (.ptr pn), some (.ptr pw), a, b, c, d] ∧ RI K q qb pn pw m n h0 p0 i M' s h p hs) ⟨b0, h0, p0, [], _, _, _, _, rfl, ?_, ?_, ?_, ?_, S0, .nil b0w S0, ?_, ?_, ?_, ?_⟩ ?_ ?_ rfl PassesOwn.never
  · rw [MM.set_ne (Ne.symm qw), MM.set_ne (Ne.symm qn)]; exact hq1
  · rw [MM.set_ne (Ne.symm pwb), MM.set_ne (Ne.symm qbn), MM.set_same]
  · rw [MM.set_ne (Ne.symm pwn), MM.set_same]; rfl
  · rw [MM.set_same, b0w]; rfl
  · rw [b0w]; exact Nat.le_refl _
  · exact Nat.le_refl _
  · rw [g0]; exact Int.le_refl _
  · intro x hx; cases hx
  · rintro i Γ' M' hi ⟨s, h, p, hs, a, b, c, d, rfl, I⟩
    have pl := I.pl
    have wl := I.wl
    have gl := I.g
    have hlen := I.C.len
    obtain ⟨d0, d1, d2⟩ := p.draw_in (many := 6) (by decide)
    generalize hp1 : (p.draw 6).2 = p1 at d2
    generalize hw : (p.draw 6).1 = way at d0 d1
    refine ⟨_, _, gn 6 nd, ?_⟩
    refine set_ 7 nd (DX.cast (dx_call F4 (hr.mono (by decide)) G.g__law_draw G.k__law_draw (ax_cons (v 0) (ax_cons dx_int ax_nil)) ⟨q, p, 6, rfl, I.mq, by decide, by decide, by omega, rfl, rfl⟩) (congrArg Dat.int hw) (M2 := M'.set q (penM p1)) (by rw [hp1])) ?_
    have mb1 : (M'.set q (penM p1)) qb = some (ben K m n s) := by rw [MM.set_ne (Ne.symm hne)]; exact I.mb
    have mn1 : (M'.set q (penM p1)) pn = some (.ml (heldsD hs)) := by rw [MM.set_ne qn]; exact I.mn
    have mw1 : (M'.set q (penM p1)) pw = some (.ml (strsD s.words)) := by rw [MM.set_ne qw]; exact I.mw
    refine hs_ifM (fun Γ2 M2 => ∃ s h p hs a b c d, Γ2 = [some (.ptr q), some l.dat, some (.ptr qb), some (heldD h), some (.ptr pn), some (.ptr pw), a, b, c, d] ∧ RI K q qb pn pw m n h0 p0 (i + 1) M2 s h p hs) (bb := decide (way = 0) && !(pyS s.words).isEmpty)
      (wx_and (tx_eq (v 7) dx_int) (fun _ => wx_and1 (tNeNilM hr.units (v 5) (dx_lst ax_nil) mw1 (pys_strs _) (shp_list (lay_strs _ I.C.lay)) rfl)) (fun _ => rfl)).pt (fun hb => ?_) (fun _ => ?_) ?_
    · have hC := I.C
      have hgs := I.gs
      cases hC with
      | nil e _ => rw [e] at hb; exact absurd hb (by simp [pyS])
      | @snoc _ prev hs' h1 z e1 e2 e3 S' C' =>
        have mw2 := mw1
        rw [e2, ← strsD_app] at mw2
        have mn2 : (M'.set q (penM p1)) pn = some (.ml (heldsD hs' ++ [heldD h1])) := by rw [mn1]; simp [heldsD]
        refine set_ 3 nd (dx_pop (q := pn) (ds := heldsD hs') (d := heldD h1) (v 4) mn2) ?_
        have mb2 : ((M'.set q (penM p1)).set pn (.ml (heldsD hs'))) qb = some (ben K m n s) := by rw [MM.set_ne (Ne.symm qbn)]; exact mb1
        have mw3 : (((M'.set q (penM p1)).set pn (.ml (heldsD hs'))).set qb (ben K m n prev)) pw = some (.ml (strsD prev.words ++ [.str z])) := by rw [MM.set_ne pwb, MM.set_ne pwn]; exact mw2
        refine hs_ifF (tStrNe (dx_meth0 F5 (hr.mono (by decide)) cl G.m_Bench_undo (v 2) (.inr ⟨qb, _, rfl, mb2, rfl⟩) ⟨qb, m, n, s, prev, prev.words, z, rfl, mb2, e1, e2, rfl, rfl⟩) (dx_pop (q := pw) (ds := strsD prev.words) (d := .str z) (v 5) mw3) (by simp)) (hs_nil ⟨prev, h1, p1, hs', _, _, _, _, rfl, ?_, ?_, ?_, ?_, S', C', ?_, by omega, ?_, fun x hx => ?_⟩)
        · rw [MM.set_ne (Ne.symm qw), MM.set_ne hne, MM.set_ne (Ne.symm qn), MM.set_same]
        · rw [MM.set_ne (Ne.symm pwb), MM.set_same]
        · rw [MM.set_ne (Ne.symm pwn), MM.set_ne qbn, MM.set_same]
        · rw [MM.set_same]
        · rw [e2, List.length_append] at wl; simp at wl; omega
        · have := hgs h1 (by simp); omega
        · have := hgs x (by simp [hx]); omega
    · refine hs_if (b := decide (way = 1)) (tx_eq (v 7) dx_int) (fun _ => ?_) fun _ => ?_
      · refine hs_setR 8 nd rfl (.inl rfl) (Rx := fun d M2 => ∃ qt, (M'.set q (penM p1)) qt = none ∧ d = .ptr qt ∧ M2 = (M'.set q (penM p1)).set qt (ben K m n { s with words := [], ahead := .non })) (rx_meth0 F6 (hr.mono (by decide)) cl G.m_Bench_twin (v 2) (.inr ⟨qb, _, rfl, mb1, rfl⟩) ⟨qb, m, n, s, rfl, mb1, I.S.bo, fun qt hqt => ⟨qt, hqt, rfl, rfl⟩⟩) ?_
        rintro d2 M2 ⟨qt, hqt, rfl, rfl⟩
        have t1 : qt ≠ q := fun z => by rw [z, MM.set_same] at hqt; cases hqt
        have t2 : qt ≠ qb := fun z => by rw [z, mb1] at hqt; cases hqt
        have t3 : qt ≠ pn := fun z => by rw [z, mn1] at hqt; cases hqt
        have t4 : qt ≠ pw := fun z => by rw [z, mw1] at hqt; cases hqt
        refine hs_setR 9 nd rfl (.inl rfl) (Rx := fun d M3 => ∃ s' h' p' z, d = .tup [heldD h', .str z] ∧ Sim m n s' h' ∧ s'.words = [z] ∧ p'.at_ ≤ p1.at_ + 60 ∧ h'.gone ≤ h.gone + 20 ∧ PyData.canLay0 (.str z) = true ∧ M3 = (((M'.set q (penM p1)).set qt (ben K m n { s with words := [], ahead := .non })).set q (penM p')).set qt (ben K m n s'))
          (rx_call F7 (hr.mono (by decide)) G.g__law_deed G.k__law_deed (ax_cons (v 0) (ax_cons (v 8) (ax_cons (v 3) ax_nil))) ⟨q, qt, m, n, { s with words := [], ahead := .non }, h, p1, rfl, by rw [MM.set_ne (Ne.symm t1), MM.set_same], MM.set_same, I.S.wa (by simp), by simp, by omega, fun s' h' p' z S' ew ea ep eg el => ⟨s', h', p', z, rfl, S', by rw [ew]; rfl, ep, eg, el, rfl⟩⟩) ?_
        rintro d3 M3 ⟨s', h', p', z, rfl, S', ew, ep, eg, el, rfl⟩
        refine hs_ifF (wx_or (b1 := false) (b2 := false) (tisN (v 9)) (fun _ => wx_or (b1 := false) (b2 := false) (tnot (b := true) (tx_val (RX.toD (rx_callA F8 (hr.mono (by decide)) G.g__law_is G.k__law_is (ax_cons (v 8) (ax_cons (dx_ix (v 9) dx_int rfl (d := heldD h') rfl) ax_nil)) fun pins s1 σ1 H1 I1 => ⟨qt, m, n, s', h', hgd, rfl, MM.set_same, S', by omega, rfl, rfl⟩))))
          (fun _ => wx_or1 (tNeSame (q := .tuple (pyS [z])) hr.units (dx_prop F9 (hr.mono (by decide)) cl G.p_Bench_past (v 8) (.inr ⟨qt, _, rfl, MM.set_same⟩) ⟨qt, m, n, s', rfl, MM.set_same, rfl, rfl⟩) (dx_tup (ax_cons (dx_ix (v 9) dx_int rfl (d := .str z) rfl) ax_nil) (by simp)) (by show Dat.py (.tup (strsD s'.words)) = _; rw [ew]; exact py_strsT _) (py_strsT [z]) (shp_tup (lay_strs _ (fun y hy => by rw [List.mem_singleton.mp hy]; exact el))))) (fun z => nomatch z)) (fun z => nomatch z)).pt
          (hs_nil (hs_nil ⟨s, h, p', hs, _, _, _, _, rfl, ?_, ?_, ?_, ?_, I.S, I.C, by omega, by omega, by omega, fun x hx => by have := I.gs x hx; omega⟩))
        · rw [MM.set_ne (Ne.symm t1), MM.set_same]
        · rw [MM.set_ne (Ne.symm t2), MM.set_ne (Ne.symm hne), MM.set_ne (Ne.symm t2)]; exact mb1
        · rw [MM.set_ne (Ne.symm t3), MM.set_ne qn, MM.set_ne (Ne.symm t3)]; exact mn1
        · rw [MM.set_ne (Ne.symm t4), MM.set_ne qw, MM.set_ne (Ne.symm t4)]; exact mw1
      refine hs_if (b := decide (way = 2)) (tx_eq (v 7) dx_int) (fun _ => ?_) fun _ => ?_
      · refine hs_ifNotR (Rx := fun d M2 => d = .bl true ∧ ∃ p' : Pen, p'.at_ ≤ p1.at_ + 61 ∧ M2 = (M'.set q (penM p1)).set q (penM p')) (rx_callA Fa (hr.mono (by decide)) G.g__law_tried_so G.k__law_tried_so (ax_cons (v 0) (ax_cons (v 2) (ax_cons (v 3) ax_nil))) fun pins s1 σ1 H1 I1 => ⟨q, qb, m, n, s, h, p1, hgd, rfl, MM.set_same, mb1, I.S, by omega, by omega, by omega, fun p' hp' => ⟨rfl, p', hp', rfl⟩⟩) ?_
        rintro d M2 ⟨rfl, p', hp', rfl⟩
        refine ⟨rfl, hs_nil (hs_nil (hs_nil ⟨s, h, p', hs, _, _, _, _, rfl, ?_, ?_, ?_, ?_, I.S, I.C, by omega, by omega, by omega, fun x hx => by have := I.gs x hx; omega⟩))⟩
        · rw [MM.set_same]
        · rw [MM.set_set, MM.set_ne (Ne.symm hne)]; exact I.mb
        · rw [MM.set_set, MM.set_ne qn]; exact I.mn
        · rw [MM.set_set, MM.set_ne qw]; exact I.mw
      · refine hs_expr (dx_append (q := pn) (ds := heldsD hs) (d := heldD h) (v 4) (v 3) mn1 mn1 (by simp [heldsD, hlen]; omega)) ?_
        refine hs_setR 9 nd rfl (.inl rfl) (Rx := fun d M3 => ∃ s' h' p' z, d = .tup [heldD h', .str z] ∧ Sim m n s' h' ∧ s'.words = s.words ++ [z] ∧ s'.ahead = s.dat K ∧ p'.at_ ≤ p1.at_ + 60 ∧ h'.gone ≤ h.gone + 20 ∧ PyData.canLay0 (.str z) = true ∧ M3 = (((M'.set q (penM p1)).set pn (.ml (heldsD hs ++ [heldD h]))).set q (penM p')).set qb (ben K m n s'))
          (rx_call F7 (hr.mono (by decide)) G.g__law_deed G.k__law_deed (ax_cons (v 0) (ax_cons (v 2) (ax_cons (v 3) ax_nil))) ⟨q, qb, m, n, s, h, p1, rfl, by rw [MM.set_ne (Ne.symm qn), MM.set_same], by rw [MM.set_ne (Ne.symm qbn)]; exact mb1, I.S, by omega, by omega, fun s' h' p' z S' ew ea ep eg el => ⟨s', h', p', z, rfl, S', ew, ea, ep, eg, el, rfl⟩⟩) ?_
        rintro d3 M3 ⟨s', h', p', z, rfl, S', ew, ea, ep, eg, el, rfl⟩
        refine hs_ifF (tisN (v 9)) ?_
        refine set_ 3 nd (dx_ix (v 9) dx_int rfl (d := heldD h') rfl) ?_
        have mw4 : ((((M'.set q (penM p1)).set pn (.ml (heldsD hs ++ [heldD h]))).set q (penM p')).set qb (ben K m n s')) pw = some (.ml (strsD s.words)) := by rw [MM.set_ne pwb, MM.set_ne qw, MM.set_ne pwn]; exact mw1
        refine hs_expr (dx_append (q := pw) (ds := strsD s.words) (d := .str z) (v 5) (dx_ix (v 9) dx_int rfl (d := .str z) rfl) mw4 mw4 (by rw [strsD_len]; omega)) (hs_nil (hs_nil (hs_nil ⟨s', h', p', hs ++ [h], _, _, _, _, rfl, ?_, ?_, ?_, ?_, S', .snoc ea ew el I.S I.C, ?_, by omega, by omega, fun x hx => ?_⟩)))
        · rw [MM.set_ne (Ne.symm qw), MM.set_ne hne, MM.set_same]
        · rw [MM.set_ne (Ne.symm pwb), MM.set_same]
        · rw [MM.set_ne (Ne.symm pwn), MM.set_ne qbn, MM.set_ne qn, MM.set_same]; simp [heldsD]
        · rw [MM.set_same, ew, ← strsD_app]
        · rw [ew, List.length_append]; simp; omega
        · rcases List.mem_append.mp hx with hx | hx
          · have := I.gs x hx; omega
          · rw [List.mem_singleton.mp hx]; omega
    · rintro Γ2 M2 ⟨s, h, p, hs, a, b, c, d, rfl, I⟩
      have gl := I.g
      refine hs_ifF (wx_or (b1 := false) (b2 := false) (tnot (b := true) (tx_val (RX.toD (rx_callA F8 (hr.mono (by decide)) G.g__law_is G.k__law_is (ax_cons (v 2) (ax_cons (v 3) ax_nil)) fun pins s1 σ1 H1 I1 => ⟨qb, m, n, s, h, hgd, rfl, I.mb, I.S, by omega, rfl, rfl⟩))))
        (fun _ => wx_or1 (tNeSame (q := .tuple (pyS s.words)) hr.units (dx_prop F9 (hr.mono (by decide)) cl G.p_Bench_past (v 2) (.inr ⟨qb, _, rfl, I.mb⟩) ⟨qb, m, n, s, rfl, I.mb, rfl, rfl⟩) (dx_tupleM G.n_tuple (v 5) I.mw) (py_strsT _) (py_strsT _) (shp_tup (lay_strs _ I.C.lay)))) (fun z => nomatch z)).pt (hs_nil ⟨s, h, p, hs, _, _, _, _, rfl, I⟩)
  · rintro Γ' M' ⟨s, h, p, hs, a, b, c, d, rfl, I⟩
    have pl := I.pl
    refine hs_while (fun k Γ2 M2 => ∃ s h p hs a b c d, k = s.words.length ∧ Γ2 = [some (.ptr q), some l.dat, some (.ptr qb), some (heldD h), some (.ptr pn), some (.ptr pw), a, b, c, d] ∧ RJ K q qb pn pw m n h0 p0 M2 s p hs) s.words.length ⟨s, h, p, hs, _, _, _, _, rfl, rfl, I.mq, I.mb, I.mn, I.mw, I.C, I.wl, I.pl, I.gs⟩ ?_ PassesOwn.never
    rintro k Γ2 M2 ⟨s, h, p, hs, a, b, c, d, rfl, rfl, I⟩
    have wl := I.wl
    have pl := I.pl
    refine ⟨!(pyS s.words).isEmpty, _, tNeNilM hr.units (v 5) (dx_lst ax_nil) I.mw (pys_strs _) (shp_list (lay_strs _ I.C.lay)) rfl, fun hb => ?_, fun hb => ?_⟩
    · have hC := I.C
      have hgs := I.gs
      have mb1 := I.mb
      have mn1 := I.mn
      have mw1 := I.mw
      have mq1 := I.mq
      cases hC with
      | nil e _ => rw [e] at hb; cases hb
      | @snoc _ prev hs' h1 z e1 e2 e3 S' C' =>
        rw [e2, ← strsD_app] at mw1
        have mn2 : ((M2.set qb (ben K m n prev)).set pw (.ml (strsD prev.words))) pn = some (.ml (heldsD hs' ++ [heldD h1])) := by rw [MM.set_ne (Ne.symm pwn), MM.set_ne qbn, mn1]; simp [heldsD]
        have mw3 : (M2.set qb (ben K m n prev)) pw = some (.ml (strsD prev.words ++ [.str z])) := by rw [MM.set_ne pwb]; exact mw1
        have gh1 := hgs h1 (by simp)
        refine hs_ifF (wx_or (b1 := false) (b2 := false) (tStrNe (dx_meth0 F5 (hr.mono (by decide)) cl G.m_Bench_undo (v 2) (.inr ⟨qb, _, rfl, mb1, rfl⟩) ⟨qb, m, n, s, prev, prev.words, z, rfl, mb1, e1, e2, rfl, rfl⟩) (dx_pop (q := pw) (ds := strsD prev.words) (d := .str z) (v 5) mw3) (by simp))
          (fun _ => wx_or1 (tnot (b := true) (tx_val (RX.toD (rx_callA F8 (hr.mono (by decide)) G.g__law_is G.k__law_is (ax_cons (v 2) (ax_cons (dx_pop (q := pn) (ds := heldsD hs') (d := heldD h1) (v 4) mn2) ax_nil)) fun pins s1 σ1 H1 I1 => ⟨qb, m, n, prev, h1, hgd, rfl, by rw [MM.set_ne (Ne.symm qbn), MM.set_ne (Ne.symm pwb), MM.set_same], S', by omega, rfl, rfl⟩))))) (fun z => nomatch z)).pt
          (hs_nil ⟨prev.words.length, by rw [e2, List.length_append]; simp, prev, h, p, hs', _, _, _, _, rfl, rfl, ?_, ?_, ?_, ?_, C', ?_, pl, fun x hx => hgs x (by simp [hx])⟩)
        · rw [MM.set_ne (Ne.symm qn), MM.set_ne (Ne.symm qw), MM.set_ne hne]; exact mq1
        · rw [MM.set_ne (Ne.symm qbn), MM.set_ne (Ne.symm pwb), MM.set_same]
        · rw [MM.set_same]
        · rw [MM.set_ne pwn, MM.set_same]
        · rw [e2, List.length_append] at wl; simp at wl; omega
    · have e : s.words = [] := by
        cases q0 : s.words with
        | nil => rfl
        | cons x r => rw [q0] at hb; cases hb
      have S0' : Sim m n s h0 := by
        have hC := I.C
        cases hC with
        | nil _ S => exact S
        | snoc e1 e2 _ _ _ => rw [e] at e2; exact absurd e2.symm (by simp)
      refine hs_ret (dx_and (b1 := true) (DX.cast (dx_eq (dx_lenO G.n_len G.f_Bench___len__ G.fn_Bench___len__ Fb (hr.mono (by decide)) (v 2) (.inr ⟨qb, _, rfl, I.mb⟩) ⟨qb, m, n, s, rfl, I.mb, rfl, rfl⟩ (by omega)) dx_int) (by rw [e]; rfl) rfl) (fun _ => dx_one (RX.toD (rx_callA F8 (hr.mono (by decide)) G.g__law_is G.k__law_is (ax_cons (v 2) (ax_cons (dx_call F3 (hr.mono (by decide)) G.g__law_begun G.k__law_begun (ax_cons (v 1) ax_nil) ⟨l, rfl, lok, rfl, rfl⟩) ax_nil)) fun pins s1 σ1 H1 I1 => ⟨qb, m, n, s, h0, hgd, by rw [hh0], I.mb, S0', by rw [g0]; decide, rfl, rfl⟩))) (fun z => nomatch z)) (hR p _ I.mq (by omega))
end
end Tx
end
section
set_option autoImplicit false
namespace Tx
open PySem PySem.Spec PyProof.Rows L2 Da Mi StX NdefX
theorem reps_ints {K : PySem.W.Frag} {D : Hp} : ∀ ns : List Int, Reps K D (ns.map V.int) (intsD ns)
  | [] => .nil
  | _ :: ns => .cons .at (reps_ints ns)
/-- the script, as the law is given it -/
def ScriptD (K : PySem.W.Frag) (d : Dat) (ns : List Int) : Prop := ∃ a os, d = .obj a os ∧ ∀ D H : Hp, (∀ p ∈ os, D p.1 = some p.2) → Ex D H → SqL K H a (ns.map V.int)
theorem dx_slS {X : Cx} {T : TL} {Γ : Gm} {M M1 M2 M3 : MM} {a : Expr} {d : Dat} {ns : List Int} {p2 pos : Pos} {lo hi : Option Expr} {ol oh : Option Int} (hd : ScriptD X.K d ns) (ha : DX X T Γ M a d M1) (h1 : OX X T Γ M1 lo ol M2) (h2 : OX X T Γ M2 hi oh M3) : DX X T Γ M (.Subscript a (.Slice lo hi none p2) pos) (.lst (cutD (intsD ns) ol oh)) M3 :=
  pe_w (pe_slice sl_list ha h1 h2) fun σ H Q ⟨D, s, l, k⟩ => ⟨D, s, l, fun x D1 H1 f1 r1 => ⟨D1, f1.sat, l.mono f1.ex, fun D2 H2 f2 => ⟨D2, f2.sat, (l.mono f1.ex).mono f2.ex, fun D3 H3 f3 => by
    obtain ⟨a1, os, rfl, hs⟩ := hd
    cases r1 with | obj hos =>
    refine ⟨a1, ns.map V.int, rfl, hs D3 H3 (fun p hp => f3.ex _ _ (f2.ex _ _ (hos p hp))) f3.sat.ex, fun p hp => ?_⟩
    have g := f3.sat.new hp (.lst (cutV (ns.map V.int) ol oh))
    exact k _ _ _ (((f1.trans f2).trans f3).trans g) (.lst upd_same ((reps_ints ns).cut ol oh))⟩⟩⟩
section
variable {Pg : Program} {w : World} {K : PySem.W.Frag} {mg : Str → Option Value} {base : Heap} {T : TL}
abbrev pPenL (K : PySem.W.Frag) : PtD := fun ds M R => ∃ d ns, ds = [d] ∧ ScriptD K d ns ∧ ∀ p, M p = none → R (.ptr p) (M.set p (penM ⟨ns.take 63, 0, 0⟩))
theorem ok_pen (G : Wd K mg) (F : FnT K "_law_pen" "_law_pen" s__law_pen (He.ga K "_law_pen")) : FnR Pg w K mg base CX0 1 (He.ga K "_law_pen") (spD K T (pPenL K)) := by
  obtain ⟨fd, F⟩ := F
  refine fd_ok F sc__law_pen (F.bindsN fun _ _ _ _ _ _ us hl => match us, hl with | [_], _ => rfl) (fun ds M R h => by obtain ⟨_, _, rfl, _⟩ := h; rfl) fun cdv A outer st H E ds M R hr h => ?_
  obtain ⟨d, ns, rfl, hd, h⟩ := h
  refine hs_retR (rx_lst (ds := [.lst (intsD (ns.take 63)), .int 0, .int 0]) (ax_cons (DX.cast (dx_list G.n_list (dx_slS hd (v 0) ox_none (ox_some dx_int)) rfl) (d' := .lst (intsD (ns.take 63))) ?_ rfl) (ax_cons dx_int (ax_cons dx_int ax_nil))) (by simp)) ?_
  · rw [show (63 : Int) = ((63 : Nat) : Int) from rfl, cutD_take, intsD_take]
  · rintro d M1 ⟨p, hp, rfl, rfl⟩
    exact h p hp
abbrev pLaw (K : PySem.W.Frag) : PtA := fun A hp H ds M R => ∃ d ns, A.guards = some [] ∧ ds = [d] ∧ ScriptD K d ns ∧ ∀ M', R (.bl true) M'
theorem ok_law (G : Wd K mg) (F : FnT K "law" "law" s_law (He.ga K "law")) (F1 : FnR Pg w K mg base CX0 1 (He.ga K "_law_pen") (spD K T (pPenL K))) {j : Nat} (hj : j ≤ 15) (F2 : FnR Pg w K mg base CX0 j (He.ga K "_law_plain") (spD K T pPlain)) (F3 : FnL Pg w K mg base T 15 (He.ga K "_law_right") (pRight K)) :
    FnL Pg w K mg base T 16 (He.ga K "law") (pLaw K) := by
  obtain ⟨fd, F⟩ := F
  refine fdA_ok F sc_law (F.bindsN fun _ _ _ _ _ _ us hl => match us, hl with | [_], _ => rfl) (fun A hh H ds M R h => by obtain ⟨_, _, _, rfl, _⟩ := h; rfl) fun cdv A outer st H E ds M R hr hA h => ?_
  obtain ⟨d, ns, hgd, rfl, hd, hR⟩ := h
  have nd := sc_law.nd
  refine hs_setR 1 nd rfl (.inl rfl) (Rx := fun d M' => ∃ q, d = .ptr q ∧ M' q = some (penM ⟨ns.take 63, 0, 0⟩)) (rx_call F1 (hr.mono (by decide)) G.g__law_pen G.k__law_pen (ax_cons (v 0) ax_nil) ⟨d, ns, rfl, hd, fun q hq => ⟨q, rfl, MM.set_same⟩⟩) ?_
  rintro d1 M1 ⟨q, rfl, hq⟩
  refine hs_for (ixR (n := 3) G.n_range dx_int (by omega)) (fun i Γ' M' => ∃ a p, Γ' = [some d, some (.ptr q), a] ∧ M' q = some (penM p) ∧ p.at_ ≤ 900 * i) ⟨_, _, rfl, hq, Nat.le_refl _⟩ ?_ ?_ rfl PassesOwn.never
  · rintro i Γ' M' hi ⟨a, p, rfl, hq, hp⟩
    refine ⟨_, _, gn 2 nd, ?_⟩
    refine hs_ifNotR (Rx := fun d M2 => d = .bl true ∧ ∃ p' : Pen, M2 q = some (penM p') ∧ p'.at_ ≤ p.at_ + 840) (rx_callAR (Ra := fun ds M2 => ∃ (l : Pl) (p' : Pen), ds = [.ptr q, l.dat] ∧ l.Ok ∧ p'.at_ ≤ p.at_ + 40 ∧ M2 = M'.set q (penM p')) F3 hr G.g__law_right G.k__law_right
      (arx_d (v 1) (arx_cons (R1 := fun d M2 => ∃ (l : Pl) (p' : Pen), d = l.dat ∧ l.Ok ∧ p'.at_ ≤ p.at_ + 40 ∧ M2 = M'.set q (penM p')) (rx_call F2 (hr.mono hj) G.g__law_plain G.k__law_plain (ax_cons (v 1) (ax_cons dx_int ax_nil)) ⟨q, p, rfl, hq, by omega, fun l p' lok hp' => ⟨l, p', rfl, lok, hp', rfl⟩⟩) fun d M2 ⟨l, p', e1, lok, hp', e2⟩ => arx_nil ⟨l, p', by rw [e1], lok, hp', e2⟩))
      fun ds M2 ⟨l, p', e1, lok, hp', e2⟩ pins s1 σ1 H1 I1 => ⟨q, l, p', hgd, e1, lok, by rw [e2, MM.set_same], by omega, fun p2 M3 h3 hp2 => ⟨rfl, p2, h3, by omega⟩⟩) ?_
    rintro d2 M2 ⟨rfl, p2, h2, hp2⟩
    exact ⟨rfl, hs_nil ⟨_, p2, rfl, h2, by omega⟩⟩
  · rintro Γ' M' ⟨a, p, rfl, hq, hp⟩
    exact hs_ret dx_bl (hR _)
end
end Tx
end
section
set_option autoImplicit false
/-! What the head's hook tells: a written part by a list of addresses; its facts as truth values, its functions by their text. -/
namespace Hw
open PySem PySem.Spec PyProof.Rows L2 Da Tx
/-! ### the written part -/
theorem bld_eq {β : Type} (g : Addr → Option Obj) (k : PySem.W.Frag → β) : ∀ (as : List Addr) (acc : PySem.W.Frag), bld g k as acc = k (bldL g as acc)
  | [], _ => rfl
  | a :: r, acc => by
    unfold bld bldL
    cases g a with
    | some o => exact bld_eq g k r _
    | none => exact bld_eq g k r _
theorem bldL_in {g : Addr → Option Obj} : ∀ {as : List Addr} {acc : PySem.W.Frag}, (∀ a o, (a, o) ∈ acc → g a = some o) → ∀ a o, (a, o) ∈ bldL g as acc → g a = some o
  | [], _, h => h
  | b :: r, acc, h => by
    unfold bldL
    cases q : g b with
    | none => exact bldL_in h
    | some u =>
      refine bldL_in fun a o m => ?_
      rcases List.mem_cons.mp m with e | m
      · cases e; exact q
      · exact h a o m
theorem bld_in {h : Heap} {as : List Addr} : (bldL h.get? as []).In h := fun a o e => bldL_in (acc := []) (fun _ _ z => absurd z List.not_mem_nil) a o (He.lookup_mem e)
/-! ### functions by their text -/
theorem DefA.funD {K : PySem.W.Frag} {d : DefA} (e : fnV K (d.at_ K) = d.val) (c : d.ok K = true) : ∃ fd, FunD K d.name d.qual (defArgs d.st) (defBody d.st) (defScope d.st) d.dfl [] (d.at_ K) fd := by
  unfold fnV at e
  unfold DefA.ok at c
  cases q : K.lookup (d.at_ K) with
  | none => rw [q] at c; cases c
  | some o =>
    obtain ⟨oc, od, dt, osl⟩ := o
    rw [q] at c e
    cases dt with
    | func fd =>
      obtain ⟨n1, n2, n3, n4, n5, n6, n7, n8, n9, n10, n11, n12, n13, n14, n15⟩ := fd
      have e2 : (some (n1, n2, n3, n4, n5) : FnV5) = some (d.name, d.qual, defArgs d.st, .stmts (defBody d.st), defScope d.st) := e
      simp only [Option.some.injEq, Prod.mk.injEq] at e2
      obtain ⟨h1, h2, h3, h4, h5⟩ := e2
      obtain ⟨k1, c2⟩ := He.ba c
      obtain ⟨k2, c3⟩ := He.ba c2
      obtain ⟨k3, c4⟩ := He.ba c3
      obtain ⟨k4, c5⟩ := He.ba c4
      obtain ⟨k5, k6⟩ := He.ba c5
      have g6 : n6 = mainGlobals := of_decide_eq_true k2
      have g15 : n15 = builtinsNs := of_decide_eq_true k3
      have g7 : n7 = [] := List.isEmpty_iff.mp k4
      subst h1 h2 h3 h4 h5 g6 g15 g7
      exact ⟨_, ⟨oc, od, n8, n9, n10, n11, n12, n13, n14, osl, rfl, q, k1, He.dflB_ok k5, He.kwdB_ok (kws := []) rfl⟩, k6⟩
    | _ => cases c
/-! ### facts as truth values -/
section
variable {K : PySem.W.Frag} {h : Heap} {mg : Str → Option Value}
theorem isCB_ok {C : Addr} (c : isCB K C = true) : Da.IsC K C := by
  obtain ⟨c1, c⟩ := He.ba c
  obtain ⟨c2, c⟩ := He.ba c
  obtain ⟨c3, c⟩ := He.ba c
  obtain ⟨c4, c⟩ := He.ba c
  obtain ⟨c5, c⟩ := He.ba c
  obtain ⟨c6, c⟩ := He.ba c
  obtain ⟨c7, c8⟩ := He.ba c
  exact ⟨⟨c1, c2, c3, He.eqO_ok c4⟩, He.eqO_ok c5, He.eqO_ok c6, of_decide_eq_true c7, of_decide_eq_true c8⟩
theorem propB_ok {C : Addr} {f : Str} (c : propB K C f = true) : PropOf K C f (He.ma K C f) (prG K C f) := by
  obtain ⟨c1, c⟩ := He.ba c
  obtain ⟨c2, c⟩ := He.ba c
  obtain ⟨c3, c4⟩ := He.ba c
  refine ⟨He.eqO_ok c1, He.eqO_ok c2, of_decide_eq_true c3, ?_⟩
  unfold prG
  split at c4
  · rename_i g r e
    exact ⟨r, by rw [e]⟩
  · cases c4
theorem smB_ok {C : Addr} {m : Str} (c : smB K C m = true) : Lo.SMet K C (.type "type") m (He.ma K C m) (stG K C m) := by
  obtain ⟨c1, c⟩ := He.ba c
  obtain ⟨c2, c⟩ := He.ba c
  obtain ⟨c3, c⟩ := He.ba c
  obtain ⟨c4, c5⟩ := He.ba c
  refine ⟨c1, He.eqO_ok c2, ?_, ?_, c5⟩
  · split at c3
    · rename_i b p C' e
      obtain ⟨d1, d⟩ := He.ba c3
      obtain ⟨d2, d3⟩ := He.ba d
      rw [e, of_decide_eq_true d1, of_decide_eq_true d2, of_decide_eq_true d3]
    · cases c3
  · unfold stG
    split at c4
    · rename_i g r e
      exact ⟨r, by rw [e]⟩
    · cases c4
theorem ecB_ok {D : Addr} (c : ecB K D = true) : ExcC K D ∧ XfC K D := by
  obtain ⟨c1, c⟩ := He.ba c
  obtain ⟨c2, c⟩ := He.ba c
  obtain ⟨c3, c⟩ := He.ba c
  obtain ⟨c4, c⟩ := He.ba c
  obtain ⟨c5, c⟩ := He.ba c
  obtain ⟨c6, c⟩ := He.ba c
  obtain ⟨c7, c8⟩ := He.ba c
  exact ⟨⟨He.eqO_ok c1, He.eqO_ok c2, of_decide_eq_true c3, c4, He.eqO_ok c5, He.eqO_ok c6, of_decide_eq_true c7, of_decide_eq_true c8⟩, ⟨He.eqO_ok c1, He.eqO_ok c2, of_decide_eq_true c3, c4⟩⟩
theorem oxB_ok {C : Addr} (c : oxB K C = true) : OexC K C := by
  obtain ⟨c1, c⟩ := He.ba c
  obtain ⟨c2, c⟩ := He.ba c
  obtain ⟨c3, c⟩ := He.ba c
  obtain ⟨c4, c5⟩ := He.ba c
  refine ⟨?_, He.eqO_ok c2, of_decide_eq_true c3, of_decide_eq_true c4, c5⟩
  split at c1
  · rename_i ty dd cd sl e
    obtain ⟨d1, d⟩ := He.ba c1
    split at d
    · rename_i C' bm k0 k1 k2 k3 n k5 em es
      obtain ⟨d2, d⟩ := He.ba d
      obtain ⟨d3, d⟩ := He.ba d
      obtain ⟨d4, d⟩ := He.ba d
      obtain ⟨d5, d6⟩ := He.ba d
      obtain ⟨a1, a2, a3, a4, a5, a6, a7, a8, a9, a10, a11⟩ := cd
      simp only at em d4 d5
      obtain ⟨sa⟩ := sl
      simp only at es
      refine ⟨a1, a5, a4, a2, bm, a7, a8, a9, a10, dd, k0, k1, k2, k3, k5, ?_, d6⟩
      have g : a11 = false := by cases a11 <;> first | rfl | cases d4
      rw [e, of_decide_eq_true d1]
      subst em es d5 g
      rw [of_decide_eq_true d2, of_decide_eq_true d3]
    · cases d
  · cases c1
end
end Hw
end
section
/-! The facts of the written part, as truth values; the defs. -/
namespace Hw
open PySem PySem.Spec PyProof.Rows L2 Da Tx
theorem at_ok {l : List Bool} {b : Bool} (c : l.all id = true) (i : Nat) (e : l[i]? = some b) : b = true := List.all_eq_true.mp c b (List.mem_of_getElem? e)
theorem wd_of {K : PySem.W.Frag} {h : Heap} {mg : Str → Option Value} (X : K.In h) (G : h.Ns mainGlobals mg) (c : wdB K = true) : Wd K mg := by
  obtain ⟨c0, c⟩ := He.ba c
  obtain ⟨c1, c⟩ := He.ba c
  obtain ⟨c2, c⟩ := He.ba c
  obtain ⟨c3, c⟩ := He.ba c
  obtain ⟨c4, c⟩ := He.ba c
  obtain ⟨c5, c⟩ := He.ba c
  obtain ⟨c6, c⟩ := He.ba c
  obtain ⟨c7, c⟩ := He.ba c
  obtain ⟨c8, c⟩ := He.ba c
  have c9 := c
  exact {
    g_is_integer := He.glo_ok X G (at_ok c0 0 rfl)
    g_is_between := He.glo_ok X G (at_ok c0 1 rfl)
    g_fits_modulus := He.glo_ok X G (at_ok c0 2 rfl)
    g_is_row := He.glo_ok X G (at_ok c0 3 rfl)
    g_first_odd := He.glo_ok X G (at_ok c0 4 rfl)
    g_beat_of := He.glo_ok X G (at_ok c0 5 rfl)
    g_shortest_of := He.glo_ok X G (at_ok c0 6 rfl)
    g_cycle_of := He.glo_ok X G (at_ok c0 7 rfl)
    g_binomial := He.glo_ok X G (at_ok c0 8 rfl)
    g_lead_of := He.glo_ok X G (at_ok c0 9 rfl)
    g_need_beat := He.glo_ok X G (at_ok c0 10 rfl)
    g_weighed := He.glo_ok X G (at_ok c0 11 rfl)
    g_coefs_of := He.glo_ok X G (at_ok c0 12 rfl)
    g_put_together := He.glo_ok X G (at_ok c0 13 rfl)
    g_put_together_ahead := He.glo_ok X G (at_ok c0 14 rfl)
    g_bench_of := He.glo_ok X G (at_ok c0 15 rfl)
    g__law_pen := He.glo_ok X G (at_ok c0 16 rfl)
    g__law_draw := He.glo_ok X G (at_ok c0 17 rfl)
    g__law_pick := He.glo_ok X G (at_ok c0 18 rfl)
    g__law_heard := He.glo_ok X G (at_ok c0 19 rfl)
    g__law_number := He.glo_ok X G (at_ok c1 0 rfl)
    g__law_plain := He.glo_ok X G (at_ok c1 1 rfl)
    g__law_run := He.glo_ok X G (at_ok c1 2 rfl)
    g__law_beat := He.glo_ok X G (at_ok c1 3 rfl)
    g__law_undone := He.glo_ok X G (at_ok c1 4 rfl)
    g__law_walk := He.glo_ok X G (at_ok c1 5 rfl)
    g__law_chosen := He.glo_ok X G (at_ok c1 6 rfl)
    g__law_begun := He.glo_ok X G (at_ok c1 7 rfl)
    g__law_gone := He.glo_ok X G (at_ok c1 8 rfl)
    g__law_steps := He.glo_ok X G (at_ok c1 9 rfl)
    g__law_is := He.glo_ok X G (at_ok c1 10 rfl)
    g__law_put := He.glo_ok X G (at_ok c1 11 rfl)
    g__law_deed := He.glo_ok X G (at_ok c1 12 rfl)
    g__law_tried_so := He.glo_ok X G (at_ok c1 13 rfl)
    g__law_right := He.glo_ok X G (at_ok c1 14 rfl)
    g_law := He.glo_ok X G (at_ok c1 15 rfl)
    g_Prompt := He.glo_ok X G (at_ok c1 16 rfl)
    g_Late := He.glo_ok X G (at_ok c1 17 rfl)
    g_Cycle := He.glo_ok X G (at_ok c1 18 rfl)
    g_Run := He.glo_ok X G (at_ok c1 19 rfl)
    g_Standing := He.glo_ok X G (at_ok c2 0 rfl)
    g_Bench := He.glo_ok X G (at_ok c2 1 rfl)
    g_BadNumber := He.glo_ok X G (at_ok c2 2 rfl)
    g_RestError := He.glo_ok X G (at_ok c2 3 rfl)
    k_is_integer := (at_ok c2 4 rfl)
    k_is_between := (at_ok c2 5 rfl)
    k_fits_modulus := (at_ok c2 6 rfl)
    k_is_row := (at_ok c2 7 rfl)
    k_first_odd := (at_ok c2 8 rfl)
    k_beat_of := (at_ok c2 9 rfl)
    k_shortest_of := (at_ok c2 10 rfl)
    k_cycle_of := (at_ok c2 11 rfl)
    k_binomial := (at_ok c2 12 rfl)
    k_lead_of := (at_ok c2 13 rfl)
    k_need_beat := (at_ok c2 14 rfl)
    k_weighed := (at_ok c2 15 rfl)
    k_coefs_of := (at_ok c2 16 rfl)
    k_put_together := (at_ok c2 17 rfl)
    k_put_together_ahead := (at_ok c2 18 rfl)
    k_bench_of := (at_ok c2 19 rfl)
    k__law_pen := (at_ok c3 0 rfl)
    k__law_draw := (at_ok c3 1 rfl)
    k__law_pick := (at_ok c3 2 rfl)
    k__law_heard := (at_ok c3 3 rfl)
    k__law_number := (at_ok c3 4 rfl)
    k__law_plain := (at_ok c3 5 rfl)
    k__law_run := (at_ok c3 6 rfl)
    k__law_beat := (at_ok c3 7 rfl)
    k__law_undone := (at_ok c3 8 rfl)
    k__law_walk := (at_ok c3 9 rfl)
    k__law_chosen := (at_ok c3 10 rfl)
    k__law_begun := (at_ok c3 11 rfl)
    k__law_gone := (at_ok c3 12 rfl)
    k__law_steps := (at_ok c3 13 rfl)
    k__law_is := (at_ok c3 14 rfl)
    k__law_put := (at_ok c3 15 rfl)
    k__law_deed := (at_ok c3 16 rfl)
    k__law_tried_so := (at_ok c3 17 rfl)
    k__law_right := (at_ok c3 18 rfl)
    k_law := (at_ok c3 19 rfl)
    n_isinstance := He.free_ok X G (at_ok c4 0 rfl)
    n_int := He.free_ok X G (at_ok c4 1 rfl)
    n_bool := He.free_ok X G (at_ok c4 2 rfl)
    n_list := He.free_ok X G (at_ok c4 3 rfl)
    n_tuple := He.free_ok X G (at_ok c4 4 rfl)
    n_len := He.free_ok X G (at_ok c4 5 rfl)
    n_range := He.free_ok X G (at_ok c4 6 rfl)
    n_all := He.free_ok X G (at_ok c4 7 rfl)
    n_sum := He.free_ok X G (at_ok c4 8 rfl)
    n_enumerate := He.free_ok X G (at_ok c4 9 rfl)
    n_abs := He.free_ok X G (at_ok c4 10 rfl)
    n_min := He.free_ok X G (at_ok c4 11 rfl)
    n_repr := He.free_ok X G (at_ok c4 12 rfl)
    n_ValueError := He.free_ok X G (at_ok c4 13 rfl)
    i_MOST_MODULUS := He.int_ok X G (at_ok c4 14 rfl)
    i_MOST_NUMBER := He.int_ok X G (at_ok c4 15 rfl)
    i_MOST_NUMBERS := He.int_ok X G (at_ok c4 16 rfl)
    i_MOST_STAGES := He.int_ok X G (at_ok c4 17 rfl)
    i_MOST_STEPS := He.int_ok X G (at_ok c4 18 rfl)
    i_MOST_LEAP := He.int_ok X G (at_ok c4 19 rfl)
    c_Prompt := isCB_ok (at_ok c5 0 rfl)
    mk_Prompt := He.mkr_ok (at_ok c5 1 rfl)
    c_Late := isCB_ok (at_ok c5 2 rfl)
    mk_Late := He.mkr_ok (at_ok c5 3 rfl)
    c_Cycle := isCB_ok (at_ok c5 4 rfl)
    mk_Cycle := He.mkr_ok (at_ok c5 5 rfl)
    c_Run := isCB_ok (at_ok c5 6 rfl)
    mk_Run := He.mkr_ok (at_ok c5 7 rfl)
    c_Standing := isCB_ok (at_ok c5 8 rfl)
    mk_Standing := He.mkr_ok (at_ok c5 9 rfl)
    c_Bench := isCB_ok (at_ok c5 10 rfl)
    mk_Bench := He.mkr_ok (at_ok c5 11 rfl)
    a_Prompt_stages := He.noat_ok (at_ok c5 12 rfl)
    a_Prompt_modulus := He.noat_ok (at_ok c5 13 rfl)
    a_Late_stages := He.noat_ok (at_ok c5 14 rfl)
    a_Late_modulus := He.noat_ok (at_ok c5 15 rfl)
    a_Cycle_numbers := He.noat_ok (at_ok c5 16 rfl)
    a_Run_chain := He.noat_ok (at_ok c5 17 rfl)
    a_Run_lead := He.noat_ok (at_ok c5 18 rfl)
    a_Run_starts := He.noat_ok (at_ok c5 19 rfl)
    a_Run_tables := He.noat_ok (at_ok c6 0 rfl)
    a_Standing_own_rests := He.noat_ok (at_ok c6 1 rfl)
    a_Standing_own_carried := He.noat_ok (at_ok c6 2 rfl)
    a_Standing_cycle := He.noat_ok (at_ok c6 3 rfl)
    a_Standing_gone := He.noat_ok (at_ok c6 4 rfl)
    a_Standing_sum_given := He.noat_ok (at_ok c6 5 rfl)
    a_Standing_words := He.noat_ok (at_ok c6 6 rfl)
    a_Standing_ahead := He.noat_ok (at_ok c6 7 rfl)
    a_Bench_chain := He.noat_ok (at_ok c6 8 rfl)
    a_Bench_standing := He.noat_ok (at_ok c6 9 rfl)
    m_Prompt_need_fit := He.meth_ok (at_ok c6 10 rfl)
    m_Prompt_handed := He.meth_ok (at_ok c6 11 rfl)
    m_Prompt_step := He.meth_ok (at_ok c6 12 rfl)
    m_Late_handed := He.meth_ok (at_ok c6 13 rfl)
    m_Run_reckoned := He.meth_ok (at_ok c6 14 rfl)
    m_Run_table_of := He.meth_ok (at_ok c6 15 rfl)
    m_Run_rest_of := He.meth_ok (at_ok c6 16 rfl)
    m_Run_carries_at := He.meth_ok (at_ok c6 17 rfl)
    m_Run_rests_at := He.meth_ok (at_ok c6 18 rfl)
    m_Run_inputs_to := He.meth_ok (at_ok c6 19 rfl)
    m_Run_prompted := He.meth_ok (at_ok c7 0 rfl)
    m_Standing_changed := He.meth_ok (at_ok c7 1 rfl)
    m_Standing_counted := He.meth_ok (at_ok c7 2 rfl)
    m_Standing_behind := He.meth_ok (at_ok c7 3 rfl)
    m_Bench_set_lead := He.meth_ok (at_ok c7 4 rfl)
    m_Bench_run := He.meth_ok (at_ok c7 5 rfl)
    m_Bench_go := He.meth_ok (at_ok c7 6 rfl)
    m_Bench_step := He.meth_ok (at_ok c7 7 rfl)
    m_Bench_leap := He.meth_ok (at_ok c7 8 rfl)
    m_Bench_led := He.meth_ok (at_ok c7 9 rfl)
    m_Bench_told_by := He.meth_ok (at_ok c7 10 rfl)
    m_Bench_undo := He.meth_ok (at_ok c7 11 rfl)
    m_Bench_tried := He.meth_ok (at_ok c7 12 rfl)
    m_Bench_twin := He.meth_ok (at_ok c7 13 rfl)
    p_Cycle_amount := propB_ok (at_ok c7 14 rfl)
    p_Bench_now := propB_ok (at_ok c7 15 rfl)
    p_Bench_given := propB_ok (at_ok c7 16 rfl)
    p_Bench_rests := propB_ok (at_ok c7 17 rfl)
    p_Bench_carried := propB_ok (at_ok c7 18 rfl)
    p_Bench_past := propB_ok (at_ok c7 19 rfl)
    p_Bench_lead_now := propB_ok (at_ok c8 0 rfl)
    st_of := smB_ok (at_ok c8 1 rfl)
    kit_Cycle_int := of_decide_eq_true (at_ok c8 2 rfl)
    kit_Cycle_Cycle := of_decide_eq_true (at_ok c8 3 rfl)
    kit_Run_Run := of_decide_eq_true (at_ok c8 4 rfl)
    kit_Prompt_Prompt := of_decide_eq_true (at_ok c8 5 rfl)
    kit_Late_Prompt := of_decide_eq_true (at_ok c8 6 rfl)
    kit_Prompt_PL := of_decide_eq_true (at_ok c8 7 rfl)
    kit_Late_PL := of_decide_eq_true (at_ok c8 8 rfl)
    f_Cycle___len__ := He.eqO_ok (at_ok c8 9 rfl)
    fn_Cycle___len__ := (at_ok c8 10 rfl)
    f_Cycle___getitem__ := He.eqO_ok (at_ok c8 11 rfl)
    fn_Cycle___getitem__ := (at_ok c8 12 rfl)
    f_Cycle___lshift__ := He.eqO_ok (at_ok c8 13 rfl)
    fn_Cycle___lshift__ := (at_ok c8 14 rfl)
    f_Cycle___eq__ := He.eqO_ok (at_ok c8 15 rfl)
    fn_Cycle___eq__ := (at_ok c8 16 rfl)
    f_Bench___len__ := He.eqO_ok (at_ok c8 17 rfl)
    fn_Bench___len__ := (at_ok c8 18 rfl)
    f_Bench___getitem__ := He.eqO_ok (at_ok c8 19 rfl)
    fn_Bench___getitem__ := (at_ok c9 0 rfl)
    f_Bench___setitem__ := He.eqO_ok (at_ok c9 1 rfl)
    fn_Bench___setitem__ := (at_ok c9 2 rfl)
    fi_Cycle := (at_ok c9 3 rfl)
    fi_Bench := (at_ok c9 4 rfl)
    sf_Cycle := (at_ok c9 5 rfl)
    rs_Cycle := He.eqO_ok (at_ok c9 6 rfl)
    ls_int := Option.isSome_iff_exists.mp (at_ok c9 7 rfl)
    rl_int := Option.isSome_iff_exists.mp (at_ok c9 8 rfl)
    sub_int := of_decide_eq_true (at_ok c9 9 rfl)
    ne_Cycle := He.eqO_ok (at_ok c9 10 rfl)
    ns_Bench := (at_ok c9 11 rfl)
  }
end Hw
end
section
/-! The refusal's class; the tables of the lambdas; the hook. -/
namespace Hw
open PySem PySem.Spec PyProof.Rows L2 Da Tx NdefX LamX
theorem er_of {K : PySem.W.Frag} (c : erB K = true) : ErW K := by
  obtain ⟨c1, c⟩ := He.ba c
  obtain ⟨c2, c⟩ := He.ba c
  obtain ⟨c3, c⟩ := He.ba c
  obtain ⟨c4, c5⟩ := He.ba c
  exact ⟨(ecB_ok c1).2, (ecB_ok c1).1, He.eqO_ok c2, He.exm_ok c3, of_decide_eq_true c4, of_decide_eq_true c5⟩
theorem ex_of {w : World} {K : PySem.W.Frag} {h : Heap} {mg : Str → Option Value} {base : Heap} (X : K.In h) (G : h.Ns mainGlobals mg) (nv : PySem.W.findIn K (.ref (bnC K)) "value" = some none) (c : bnB K = true) (e : fnV K (bnF K) = bnV) : ∃ fd, ExW Pz w K mg base (bnC K) (bnF K) fd := by
  obtain ⟨c1, c⟩ := He.ba c
  obtain ⟨c2, c⟩ := He.ba c
  obtain ⟨c3, c⟩ := He.ba c
  obtain ⟨c4, c5⟩ := He.ba c
  obtain ⟨d1, d⟩ := He.ba c4
  obtain ⟨d2, d⟩ := He.ba d
  obtain ⟨d3, d⟩ := He.ba d
  obtain ⟨d4, d⟩ := He.ba d
  obtain ⟨d5, d6⟩ := He.ba d
  have ox := oxB_ok c1
  unfold fnV at e
  unfold cdOf at d2
  cases q : K.lookup (bnF K) with
  | none => rw [q] at d1; cases d1
  | some o =>
    obtain ⟨oc, od, dt, osl⟩ := o
    rw [q] at d1 d2 e
    cases dt with
    | func fd =>
      obtain ⟨n1, n2, n3, n4, n5, n6, n7, n8, n9, n10, n11, n12, n13, n14, n15⟩ := fd
      have e2 : (some (n1, n2, n3, n4, n5) : FnV5) = some (("__init__" : Str), ("BadNumber.__init__" : Str), defArgs s_BN, FuncBody.stmts (defBody s_BN), defScope s_BN) := e
      simp only [Option.some.injEq, Prod.mk.injEq] at e2
      obtain ⟨h1, h2, h3, h4, h5⟩ := e2
      obtain ⟨k1, k⟩ := He.ba d1
      obtain ⟨k2, k⟩ := He.ba k
      obtain ⟨k3, k⟩ := He.ba k
      obtain ⟨k0, k4⟩ := He.ba k
      have g6 : n6 = mainGlobals := of_decide_eq_true k2
      have g15 : n15 = builtinsNs := of_decide_eq_true k3
      simp only at k4 d2 k1
      split at k4
      · rename_i x cc u9 hcl
        obtain ⟨l1, l2⟩ := He.ba k4
        have gx : x = "__class__" := of_decide_eq_true l1
        obtain ⟨cda, hcd⟩ := He.codeIn_ref k1
        subst hcd h1 h2 h3 h4 h5 g6 g15 gx
        have cell : ∃ cl cld csl, K.lookup cc = some ⟨cl, cld, .cell (some (.ref (bnC K))), csl⟩ := by
          split at l2
          · rename_i u1 u2 D' u3 hq
            exact ⟨_, _, _, by rw [hq, of_decide_eq_true l2]⟩
          · cases l2
        have code : ∃ ccl cdd vs ccs file tf, K.lookup cda = some ⟨ccl, cdd, .fields vs, ccs⟩ ∧ vs[2]? = some (.str file tf) ∧ ((Pz.main.file : Str) == file) = true := by
          simp only at d2
          split at d2
          · rename_i u1 u2 vs u3 hq
            split at d2
            · rename_i fl u4 hv
              exact ⟨_, _, _, _, _, _, hq, hv, d2⟩
            · cases d2
          · cases d2
        have g8 : n8 = .none := by
          rcases He.dflB_ok k0 with ⟨_, z⟩ | ⟨z, _⟩
          · exact z
          · exact absurd rfl z
        subst g8
        exact ⟨_, ox, He.eqO_ok c2, of_decide_eq_true c3, Lo.ok_excInit (fld := "value") (vn := "value") q k1 ⟨ox, cell, code, of_decide_eq_true d3, of_decide_eq_true d4, of_decide_eq_true d5, He.eqO_ok d6, He.free_ok X G c5, rfl⟩ (nscope_by (by decide +kernel)) (by decide +kernel) rfl rfl nv (by decide) (by decide) (by decide) (fun _ => rfl), .all fun us hl => match us, hl with | [_, _], _ => rfl⟩
      · cases k4
    | _ => cases d1
/-! ### the tables -/
theorem codeAt_of {K : PySem.W.Frag} {d : DefA} (c : d.ok K = true) : CodeAt K (d.at_ K) (cdOf K (d.at_ K)) := fun oc od x q params body scope dV kV doc pm an cdv ct osl lk => by
  unfold DefA.ok at c
  unfold cdOf
  rw [lk] at c ⊢
  obtain ⟨k1, _⟩ := He.ba c
  obtain ⟨cc, e⟩ := He.codeIn_ref k1
  have e' : cdv = .ref cc := e
  subst e'
  rfl
theorem emB_ok {g : Addr → Option Obj} {a : Addr} (c : emB g a = true) : g a = some { cls := .none, data := .fields #[] } := by
  unfold emB at c
  split at c
  · rename_i o e
    rw [e, He.emptyTab_eq c]
  · cases c
abbrev qlam (x : Str) : Str := (x ++ (".<locals>." : Str)) ++ ("<lambda>" : Str)
def csW (K : PySem.W.Frag) : List (Addr × Addr) := [tbOf K "_law_deed", tbOf K "_law_tried_so"]
def TW (K : PySem.W.Frag) : TL := [((tbOf K "_law_deed").2, qlam "_law_deed"), ((tbOf K "_law_tried_so").2, qlam "_law_tried_so")]
/-! ### the hook -/
def okB (K : PySem.W.Frag) : Bool := wdB K && ((defs.all fun d => d.ok K) && (erB K && (bnB K && (tbB K "_law_deed" && (tbB K "_law_tried_so" && decide ((tbOf K "_law_deed").2 ≠ (tbOf K "_law_tried_so").2))))))
abbrev AlW : Type := Bool × List FnV5
def obsK (g : Addr → Option Obj) (K : PySem.W.Frag) : AlW := (okB K && (emB g (tbOf K "_law_deed").2 && emB g (tbOf K "_law_tried_so").2), fnV K (bnF K) :: defs.map fun d => fnV K (d.at_ K))
def valW : AlW := (true, bnV :: defs.map DefA.val)
structure SaysW (h : Heap) (K : PySem.W.Frag) : Prop where
  ok : okB K = true
  bn : fnV K (bnF K) = bnV
  fn : (defs.map fun d => fnV K (d.at_ K)) = defs.map DefA.val
  e1 : h.get? (tbOf K "_law_deed").2 = some { cls := .none, data := .fields #[] }
  e2 : h.get? (tbOf K "_law_tried_so").2 = some { cls := .none, data := .fields #[] }
def hookW (as : List Addr) : PySem.W.Hook where
  α := AlW
  obs := fun s => bld s.heap.get? (obsK s.heap.get?) as []
  val := fun _ => valW
  says := fun _ h => ∃ K : PySem.W.Frag, K.In h ∧ SaysW h K
  of := fun w s e => by
    rw [bld_eq] at e
    refine ⟨bldL s.heap.get? as [], bld_in, ?_⟩
    have e1 := congrArg Prod.fst e
    have e2 := congrArg Prod.snd e
    obtain ⟨c1, c2⟩ := He.ba e1
    obtain ⟨c3, c4⟩ := He.ba c2
    exact ⟨c1, (List.cons.inj e2).1, (List.cons.inj e2).2, emB_ok c3, emB_ok c4⟩
  keeps := fun _ _ _ ⟨K, hK, c⟩ k => ⟨K, PySem.W.Frag.In.keeps hK k, ⟨c.ok, c.bn, c.fn, k _ _ c.e1, k _ _ c.e2⟩⟩
theorem SaysW.def_ {h : Heap} {K : PySem.W.Frag} (c : SaysW h K) (i : Nat) (d : DefA) (e : defs[i]? = some d) : d.ok K = true ∧ ∃ fd, FunD K d.name d.qual (defArgs d.st) (defBody d.st) (defScope d.st) d.dfl [] (d.at_ K) fd := by
  obtain ⟨_, c2⟩ := He.ba c.ok
  obtain ⟨c2, _⟩ := He.ba c2
  have ok := List.all_eq_true.mp c2 d (List.mem_of_getElem? e)
  have e2 : (defs.map fun d => fnV K (d.at_ K))[i]? = (defs.map DefA.val)[i]? := by rw [c.fn]
  rw [List.getElem?_map, List.getElem?_map, e] at e2
  exact ⟨ok, DefA.funD (Option.some.inj e2) ok⟩
end Hw
end
section
/-! All defs together. -/
namespace Hw
open PySem PySem.Spec PyProof.Rows L2 Da Tx NdefX LamX
theorem step_fs {K : PySem.W.Frag} (F : ∃ fd, FunD K "step" "Bench.step" (defArgs s_Bench_step) (defBody s_Bench_step) (defScope s_Bench_step) [.int 1] [] (He.ma K (He.ga K "Bench") "step") fd) :
    ∃ fd dv, FunD K "step" "Bench.step" (defArgs s_Bench_step) (defBody s_Bench_step) (defScope s_Bench_step) dv [] (He.ma K (He.ga K "Bench") "step") fd ∧ Binds K fd ["self", "many"] [] := by
  obtain ⟨fd, F⟩ := F
  obtain ⟨ds, hv, hb⟩ := F.binds1 (ps := ["self", "many"]) 2 1 (by simp) rfl fun T kV doc pm an cdv ct us its h1 h2 => match us, its, h1, h2 with
    | [_, _], [_], _, _ => ⟨_, rfl, rfl⟩
  cases hv
  exact ⟨fd, _, F, hb⟩
theorem all_law {w : World} {K : PySem.W.Frag} {mg : Str → Option Value} {base : Heap} {T : TL} {c1 P1 c2 P2 : Addr} {fd0 : FuncData} (G : Wd K mg) (E1 : ErW K) (W : ExW Pz w K mg base (bnC K) (bnF K) fd0) (LTd : LmT K mg base T (He.ga K "_law_deed") c1 P1 (qlam "_law_deed")) (LTt : LmT K mg base T (He.ga K "_law_tried_so") c2 P2 (qlam "_law_tried_so"))
    (FD : ∀ (i : Nat) (d : DefA), defs[i]? = some d → ∃ fd, FunD K d.name d.qual (defArgs d.st) (defBody d.st) (defScope d.st) d.dfl [] (d.at_ K) fd) : FnL Pz w K mg base T 16 (He.ga K "law") (pLaw K) := by
  have FS := step_fs (FD 80 _ rfl)
  have h_ok_pen := ok_pen (Pg := Pz) (w := w) (mg := mg) (base := base) (T := T) G (FD 78 _ rfl)
  have h_ok_draw := ok_draw (Pg := Pz) (w := w) (mg := mg) (base := base) (T := T) G (FD 58 _ rfl)
  have h_ok_pick := ok_pick (Pg := Pz) (w := w) (mg := mg) (base := base) (T := T) G (FD 59 _ rfl) h_ok_draw
  have h_ok_number := ok_number (Pg := Pz) (w := w) (mg := mg) (base := base) (T := T) G (FD 60 _ rfl) h_ok_draw h_ok_pick
  have h_ok_plain := ok_plain (Pg := Pz) (w := w) (mg := mg) (base := base) (T := T) G (FD 61 _ rfl) h_ok_draw h_ok_pick h_ok_number
  have h_ok_binomial := ok_binomial (Pg := Pz) (w := w) (mg := mg) (base := base) (T := T) G (FD 5 _ rfl)
  have h_ok_cylen := ok_cylen (Pg := Pz) (w := w) (mg := mg) (base := base) (T := T) G (FD 21 _ rfl)
  have h_ok_rest_of := ok_rest_of (Pg := Pz) (w := w) (mg := mg) (base := base) (T := T) G (FD 30 _ rfl) h_ok_binomial h_ok_cylen
  have h_ok_is_integer := ok_is_integer (Pg := Pz) (w := w) (mg := mg) (base := base) (T := T) G (FD 0 _ rfl)
  have h_ok_is_between := ok_is_between (Pg := Pz) (w := w) (mg := mg) (base := base) (T := T) G (FD 1 _ rfl) h_ok_is_integer
  have h_ok_fits := ok_fits (Pg := Pz) (w := w) (mg := mg) (base := base) (T := T) G (FD 2 _ rfl) h_ok_is_between
  have h_ok_chain : ∀ late, FnR Pz w K mg base CX0 4 (He.ma K (chC K late) "__init__") (spD K T (pChain K late)) := fun late => match late with
    | false => ok_chain G false (FD 11 _ rfl) h_ok_is_between h_ok_fits
    | true => ok_chain G true (FD 12 _ rfl) h_ok_is_between h_ok_fits
  have h_ok_first_odd := ok_first_odd (Pg := Pz) (w := w) (mg := mg) (base := base) (T := T) G (FD 4 _ rfl) h_ok_is_between
  have h_ok_shortest := ok_shortest (Pg := Pz) (w := w) (mg := mg) (base := base) (T := T) G (FD 16 _ rfl)
  have h_ok_cycle := ok_cycle (Pg := Pz) (w := w) (mg := mg) (base := base) (T := T) G (FD 17 _ rfl) h_ok_first_odd h_ok_shortest
  have h_ok_lead_of := ok_lead_of (Pg := Pz) (w := w) (mg := mg) (base := base) (T := T) G (FD 25 _ rfl) h_ok_is_between h_ok_cycle
  have h_ok_coefs_of := ok_coefs_of (Pg := Pz) (w := w) (mg := mg) (base := base) (T := T) G (FD 8 _ rfl)
  have h_ok_table_of := ok_table_of (Pg := Pz) (w := w) (mg := mg) (base := base) (T := T) G (FD 27 _ rfl) h_ok_coefs_of
  have h_ok_handed := fun late => ok_handed (Pg := Pz) (w := w) (mg := mg) (base := base) (T := T) (FD 9 _ rfl) (FD 10 _ rfl) late
  have h_ok_beat_of := ok_beat_of (Pg := Pz) (w := w) (mg := mg) (base := base) (T := T) G (FD 13 _ rfl) h_ok_handed
  have h_ok_cyat := ok_cyat (Pg := Pz) (w := w) (mg := mg) (base := base) (T := T) G (FD 22 _ rfl) h_ok_is_integer
  have h_ok_reckoned := ok_reckoned (Pg := Pz) (w := w) (mg := mg) (base := base) (T := T) G (FD 28 _ rfl) h_ok_table_of h_ok_beat_of h_ok_cylen h_ok_cyat
  have h_ok_run := ok_run (Pg := Pz) (w := w) (mg := mg) (base := base) (T := T) G (FD 29 _ rfl) h_ok_lead_of h_ok_first_odd h_ok_reckoned
  have h_ok_prompted := ok_prompted (Pg := Pz) (w := w) (mg := mg) (base := base) (T := T) G (FD 34 _ rfl) h_ok_rest_of (h_ok_chain false) h_ok_run
  have h_ok_need_beat := ok_need_beat (Pg := Pz) (w := w) (mg := mg) (base := base) (T := T) G (FD 26 _ rfl) h_ok_is_integer
  have h_ok_rests_at := ok_rests_at (Pg := Pz) (w := w) (mg := mg) (base := base) (T := T) G (FD 31 _ rfl) h_ok_rest_of h_ok_need_beat
  have h_ok_carries_at := ok_carries_at (Pg := Pz) (w := w) (mg := mg) (base := base) (T := T) G (FD 32 _ rfl) h_ok_rests_at h_ok_beat_of h_ok_cyat
  have h_ok_standing := ok_standing (Pg := Pz) (w := w) (mg := mg) (base := base) (T := T) G (FD 35 _ rfl)
  have h_ok_bench := ok_bench (Pg := Pz) (w := w) (mg := mg) (base := base) (T := T) G (FD 41 _ rfl) h_ok_prompted h_ok_carries_at h_ok_standing
  have h_ok_is_row := ok_is_row (Pg := Pz) (w := w) (mg := mg) (base := base) (T := T) G (FD 3 _ rfl)
  have h_ok_of := ok_of (Pg := Pz) (w := w) (mg := mg) (base := base) (T := T) G (FD 19 _ rfl) h_ok_cycle h_ok_is_row
  have h_ok_lawrun := ok_lawrun (Pg := Pz) (w := w) (mg := mg) (base := base) (T := T) G (FD 62 _ rfl) h_ok_chain h_ok_of h_ok_run
  have h_ok_lbeat := ok_lbeat (Pg := Pz) (w := w) (mg := mg) (base := base) (T := T) G (FD 63 _ rfl)
  have h_ok_undone := ok_undone (Pg := Pz) (w := w) (mg := mg) (base := base) (T := T) G (FD 64 _ rfl)
  have h_ok_walk := ok_walk (Pg := Pz) (w := w) (mg := mg) (base := base) (T := T) G (FD 65 _ rfl) h_ok_lbeat h_ok_undone
  have h_ok_begun := ok_begun (Pg := Pz) (w := w) (mg := mg) (base := base) (T := T) G (FD 66 _ rfl) h_ok_walk
  have h_ok_undo := ok_undo (Pg := Pz) (w := w) (mg := mg) (base := base) (T := T) G (FD 55 _ rfl)
  have h_ok_changed := ok_changed (Pg := Pz) (w := w) (mg := mg) (base := base) (T := T) G (FD 36 _ rfl) h_ok_standing
  have h_ok_counted := ok_counted (Pg := Pz) (w := w) (mg := mg) (base := base) (T := T) G (FD 37 _ rfl) h_ok_changed
  have h_ok_lead_now := ok_lead_now (Pg := Pz) (w := w) (mg := mg) (base := base) (T := T) G (FD 47 _ rfl)
  have h_ok_bench_of := ok_bench_of (Pg := Pz) (w := w) (mg := mg) (base := base) (T := T) G (FD 56 _ rfl) h_ok_run h_ok_bench h_ok_standing h_ok_counted h_ok_lead_now
  have h_ok_twin := ok_twin (Pg := Pz) (w := w) (mg := mg) (base := base) (T := T) G (FD 57 _ rfl) h_ok_bench_of
  have h_ok_chosen := ok_chosen (Pg := Pz) (w := w) (mg := mg) (base := base) (T := T) G (FD 6 _ rfl)
  have h_ok_gone := ok_gone (Pg := Pz) (w := w) (mg := mg) (base := base) (T := T) G (FD 67 _ rfl) h_ok_lbeat h_ok_chosen
  have h_ok_lsteps := ok_lsteps (Pg := Pz) (w := w) (mg := mg) (base := base) (T := T) G (FD 68 _ rfl) h_ok_gone
  have h_ok_behind := ok_behind (Pg := Pz) (w := w) (mg := mg) (base := base) (T := T) G (FD 38 _ rfl) h_ok_changed
  have h_ok_need_fit := ok_need_fit (Pg := Pz) (w := w) (mg := mg) (base := base) (T := T) G (FD 14 _ rfl) h_ok_is_between h_ok_is_row h_ok_first_odd
  have h_ok_step := ok_step (Pg := Pz) (w := w) (mg := mg) (base := base) (T := T) G (FD 15 _ rfl) h_ok_need_fit h_ok_beat_of
  have h_ok_weighed := ok_weighed (Pg := Pz) (w := w) (mg := mg) (base := base) (T := T) G (FD 7 _ rfl) h_ok_binomial
  have h_ok_put_together := ok_put_together (Pg := Pz) (w := w) (mg := mg) (base := base) (T := T) G (FD 39 _ rfl) h_ok_weighed
  have h_ok_go := ok_go (Pg := Pz) (w := w) (mg := mg) (base := base) (T := T) G (FD 53 _ rfl) h_ok_step h_ok_changed h_ok_counted h_ok_put_together
  have h_ok_cycle_of := ok_cycle_of (Pg := Pz) (w := w) (mg := mg) (base := base) (T := T) G (FD 18 _ rfl) h_ok_cycle
  have h_ok_cyshl := ok_cyshl (Pg := Pz) (w := w) (mg := mg) (base := base) (T := T) G (FD 23 _ rfl) h_ok_is_integer h_ok_cycle_of
  have h_ok_benstep := ok_benstep (Pg := Pz) (w := w) (mg := mg) (base := base) (T := T) G FS h_ok_is_between h_ok_changed h_ok_behind h_ok_go h_ok_cyshl h_ok_cyat
  have h_ok_benrun := ok_benrun (Pg := Pz) (w := w) (mg := mg) (base := base) (T := T) G (FD 49 _ rfl) h_ok_run
  have h_ok_amount := ok_amount (Pg := Pz) (w := w) (mg := mg) (base := base) (T := T) G (FD 20 _ rfl)
  have h_ok_inputs_to := ok_inputs_to (Pg := Pz) (w := w) (mg := mg) (base := base) (T := T) G (FD 33 _ rfl) h_ok_amount h_ok_cylen
  have h_ok_put_ahead := ok_put_ahead (Pg := Pz) (w := w) (mg := mg) (base := base) (T := T) G (FD 40 _ rfl) h_ok_weighed
  have h_ok_leap := ok_leap (Pg := Pz) (w := w) (mg := mg) (base := base) (T := T) G (FD 54 _ rfl) h_ok_is_between h_ok_changed h_ok_behind h_ok_counted h_ok_cyshl h_ok_benrun h_ok_carries_at h_ok_rests_at h_ok_inputs_to h_ok_put_ahead
  have h_ok_set_lead := ok_set_lead (Pg := Pz) (w := w) (mg := mg) (base := base) (T := T) G (FD 50 _ rfl) h_ok_lead_of h_ok_changed h_ok_behind
  have h_ok_benset := ok_benset (Pg := Pz) (w := w) (mg := mg) (base := base) (T := T) G (FD 52 _ rfl) h_ok_is_between h_ok_changed h_ok_behind
  have h_ok_put := ok_put (Pg := Pz) (w := w) (mg := mg) (base := base) (T := T) G (FD 72 _ rfl) h_ok_benset
  have h_ok_told_by := ok_told_by (Pg := Pz) (w := w) (mg := mg) (base := base) (T := T) G (FD 69 _ rfl) h_ok_is_between
  have h_ok_led := ok_led (Pg := Pz) (w := w) (mg := mg) (base := base) (T := T) G (FD 70 _ rfl) h_ok_is_between h_ok_behind h_ok_go h_ok_told_by
  have h_ok_deed := ok_deed (Pg := Pz) (w := w) (mg := mg) (base := base) (T := T) LTd G (FD 73 _ rfl) h_ok_draw h_ok_pick h_ok_number h_ok_lsteps h_ok_benstep h_ok_leap h_ok_set_lead h_ok_of h_ok_put h_ok_gone h_ok_led
  have h_ok_now := ok_now (Pg := Pz) (w := w) (mg := mg) (base := base) (T := T) G (FD 42 _ rfl)
  have h_ok_given := ok_given (Pg := Pz) (w := w) (mg := mg) (base := base) (T := T) G (FD 43 _ rfl)
  have h_ok_rests := ok_rests (Pg := Pz) (w := w) (mg := mg) (base := base) (T := T) G (FD 44 _ rfl)
  have h_ok_carried := ok_carried (Pg := Pz) (w := w) (mg := mg) (base := base) (T := T) G (FD 45 _ rfl)
  have h_ok_cyeq := ok_cyeq (Pg := Pz) (w := w) (mg := mg) (base := base) (T := T) G (FD 24 _ rfl)
  have h_ok_benat := ok_benat (Pg := Pz) (w := w) (mg := mg) (base := base) (T := T) G (FD 51 _ rfl) h_ok_is_between
  have h_ok_is := ok_is (Pg := Pz) (w := w) (mg := mg) (base := base) (T := T) G (FD 74 _ rfl) h_ok_now h_ok_given h_ok_rests h_ok_carried h_ok_lead_now h_ok_of h_ok_cyeq h_ok_benat
  have h_ok_past := ok_past (Pg := Pz) (w := w) (mg := mg) (base := base) (T := T) G (FD 46 _ rfl)
  have h_ok_tried := ok_tried (Pg := Pz) (w := w) (mg := mg) (base := base) (T := T) (k := 12) G (FD 71 _ rfl)
  have h_ok_heard := ok_heard (Pg := Pz) (w := w) (mg := mg) (base := base) (T := T) (k := 4) G E1 (FD 75 _ rfl)
  have h_ok_refuse := ok_refuse (Pg := Pz) (w := w) (mg := mg) (base := base) (T := T) G (FD 54 _ rfl) h_ok_is_between W
  have h_ok_tried_so := ok_tried_so (Pg := Pz) (w := w) (mg := mg) (base := base) (T := T) LTt G (FD 76 _ rfl) h_ok_deed h_ok_tried h_ok_pick h_ok_heard h_ok_refuse h_ok_is
  have h_ok_benlen := ok_benlen (Pg := Pz) (w := w) (mg := mg) (base := base) (T := T) G (FD 48 _ rfl)
  have h_ok_right := ok_right (Pg := Pz) (w := w) (mg := mg) (base := base) (T := T) G (FD 77 _ rfl) h_ok_bench h_ok_lawrun h_ok_begun h_ok_draw h_ok_undo h_ok_twin h_ok_deed h_ok_is h_ok_past h_ok_tried_so h_ok_benlen
  have h_ok_law := ok_law (Pg := Pz) (w := w) (mg := mg) (base := base) (T := T) G (FD 79 _ rfl) h_ok_pen (by decide) h_ok_plain h_ok_right
  exact h_ok_law
end Hw
end
section
/-! From the head's facts to the law's call. -/
namespace Hw
open PySem PySem.Spec PyProof.Rows L2 Da Tx NdefX LamX
theorem lm_of {h : Heap} {K : PySem.W.Frag} {mg : Str → Option Value} {base : Heap} (c : SaysW h K) (i : Nat) (d : DefA) (e : defs[i]? = some d) {x : Str} (hx : d.at_ K = He.ga K x) (tb : TabB base mg (tbOf K x).1 (tbOf K x).2) (hm : ((tbOf K x).2, qlam x) ∈ TW K) (hu : ∀ p ∈ TW K, p.1 = (tbOf K x).2 → p.2 = qlam x) :
    LmT K mg base (TW K) (He.ga K x) (tbOf K x).1 (tbOf K x).2 (qlam x) := by
  have h1 := codeAt_of (c.def_ i d e).1
  rw [hx] at h1
  exact ⟨h1, tb, hm, hu⟩
theorem says_law {w : World} {h : Heap} {K : PySem.W.Frag} {mg : Str → Option Value} {base : Heap} (X : K.In h) (G : h.Ns mainGlobals mg) (c : SaysW h K) (tb : ∀ p ∈ csW K, TabB base mg p.1 p.2) : FnL Pz w K mg base (TW K) 16 (He.ga K "law") (pLaw K) := by
  obtain ⟨c1, c2⟩ := He.ba c.ok
  obtain ⟨_, c3⟩ := He.ba c2
  obtain ⟨c3, c4⟩ := He.ba c3
  obtain ⟨c4, c5⟩ := He.ba c4
  obtain ⟨_, c6⟩ := He.ba c5
  obtain ⟨_, c7⟩ := He.ba c6
  have ne : (tbOf K "_law_deed").2 ≠ (tbOf K "_law_tried_so").2 := of_decide_eq_true c7
  have W := wd_of X G c1
  have E1 := er_of c3
  obtain ⟨fd, ex⟩ := ex_of (w := w) (base := base) X G E1.nv c4 c.bn
  refine all_law (c1 := (tbOf K "_law_deed").1) (P1 := (tbOf K "_law_deed").2) (c2 := (tbOf K "_law_tried_so").1) (P2 := (tbOf K "_law_tried_so").2) W E1 ex ?_ ?_ fun i d e => (c.def_ i d e).2
  · refine lm_of c 73 _ rfl rfl (tb _ List.mem_cons_self) List.mem_cons_self fun p hp e => ?_
    simp only [TW, List.mem_cons, List.not_mem_nil, or_false] at hp
    rcases hp with rfl | rfl
    · rfl
    · exact absurd e.symm ne
  · refine lm_of c 76 _ rfl rfl (tb _ (List.mem_cons_of_mem _ List.mem_cons_self)) (List.mem_cons_of_mem _ List.mem_cons_self) fun p hp e => ?_
    simp only [TW, List.mem_cons, List.not_mem_nil, or_false] at hp
    rcases hp with rfl | rfl
    · exact absurd e ne
    · rfl
/-- the law's call, from the head's heap -/
theorem law_go {w : World} {s₁ : Shared} {K : PySem.W.Frag} {mg mb : Str → Option Value} {fa a : Addr} {vs : List Value} {ns : List Int} (KX : K.In s₁.heap) (c : SaysW s₁.heap K) (hmg : mg "law" = some (.ref fa))
    (hns : s₁.heap.Ns mainGlobals mg) (hb : s₁.heap.Ns builtinsNs mb) (hbb : ∀ x : Str, x ≠ "__name__" → mb x = bootBuiltins x) (hlim : s₁.heap.NoLimit) (hg : s₁.gens = #[])
    (hbm : ∃ (bm : Addr) (ob : Obj), mg "__builtins__" = some (.ref bm) ∧ bm ≠ builtinsNs ∧ s₁.heap.get? bm = some ob ∧ ob.cls = .type "module" ∧ ob.dict = some builtinsNs ∧ ob.data = .plain)
    (ha : s₁.heap.get? a = some { cls := .type "list", data := .seq vs.toArray }) (hi : IntsAre vs ns) (hl : ns.length ≤ sizeLine) :
    codeAny (model Pz w) callerA (.call (.ref fa) ⟨[.ref a], []⟩) (fun r s' => r = .ok (.ret (.bool true)) ∧ OldK s₁.heap s'.heap ∧ s'.os = s₁.os ∧ AllBare s'.gens) s₁ := by
  obtain ⟨c1, c2⟩ := He.ba c.ok
  obtain ⟨_, c3⟩ := He.ba c2
  obtain ⟨_, c4⟩ := He.ba c3
  obtain ⟨_, c5⟩ := He.ba c4
  obtain ⟨d1, c6⟩ := He.ba c5
  obtain ⟨d2, _⟩ := He.ba c6
  obtain ⟨d1, n1⟩ := He.ba d1
  obtain ⟨d2, n2⟩ := He.ba d2
  have efa : fa = He.ga K "law" := by
    have W := wd_of KX hns c1
    have e := hmg.symm.trans W.g_law
    cases e
    rfl
  subst efa
  refine law_end (T := TW K) (cs := csW K) (k := 16) (PA := pLaw K) KX hns hb hbb hlim hg (fun p hp => ?_) (fun p hp => ?_) (fun p hp => ?_) (fun t ht => ?_) hbm ha hi hl ⟨rfl, by decide, by decide⟩ (fun base KB nsB tb => ?_) fun H os hS => ?_
  · simp only [csW, List.mem_cons, List.not_mem_nil, or_false] at hp
    rcases hp with rfl | rfl
    · exact c.e1
    · exact c.e2
  · simp only [csW, List.mem_cons, List.not_mem_nil, or_false] at hp
    rcases hp with rfl | rfl
    · exact Option.isNone_iff_eq_none.mp n1
    · exact Option.isNone_iff_eq_none.mp n2
  · simp only [csW, List.mem_cons, List.not_mem_nil, or_false] at hp
    rcases hp with rfl | rfl
    · exact PySem.W.codeHd_of_K KX d1
    · exact PySem.W.codeHd_of_K KX d2
  · simp only [TW, List.mem_cons, List.not_mem_nil, or_false] at ht
    rcases ht with rfl | rfl
    · exact List.mem_map.mpr ⟨_, List.mem_cons_self, rfl⟩
    · exact List.mem_map.mpr ⟨_, List.mem_cons_of_mem _ List.mem_cons_self, rfl⟩
  · exact says_law KX hns c tb
  · exact ⟨_, ns, rfl, rfl, ⟨a, os, rfl, hS⟩, fun _ => rfl⟩
end Hw
end
section
set_option maxHeartbeats 0
/-! The run of the top. -/
namespace Hw
open PySem PySem.W PySem.Calls PyProof.Rows
def obT (s : SharedT) : AlW := bld (HandSHeadRun.getT s) (obsK (HandSHeadRun.getT s)) asW []
theorem obT_eq (s : SharedT) : obT s = (hookW asW).obs s.abs := by
  have e : HandSHeadRun.getT s = s.abs.heap.get? := funext (HandSHeadRun.getT_eq s)
  unfold obT
  rw [e]
  rfl
/-! four looks behind one run each -/
theorem run (w : World) : HandSHeadRun.RunEq Rw qv (hookW asW) obT 16384 names w := by
  intro os
  have r1 := Hx.endX_eq.trans (run1 w os)
  have r2 := Hx.endX_eq.trans (run2 w os)
  obtain ⟨s, hs, e1⟩ := Option.map_eq_some_iff.mp r1
  rw [hs] at r2 ⊢
  have e2 := Option.some.inj r2
  have a1 : lk1 w s = true := congrArg Prod.fst e1
  have a3 : lk2 s = openGood qv names := congrArg (fun z => z.2.1) e1
  have a4 : gk (okS (HandSHeadRun.getT s)) s = true := congrArg (fun z => z.2.2) e1
  have a5 : gk wdB s = true := congrArg Prod.fst e2
  have a2 : gk (fun K => defs.all fun d => d.ok K) s = true := congrArg (fun z => z.2.1) e2
  have a6 : gk (fun K => fnV K (bnF K) :: defs.map fun d => fnV K (d.at_ K)) s = bnV :: defs.map DefA.val := congrArg (fun z => z.2.2) e2
  unfold gk at a2 a4 a5 a6
  rw [bld_eq] at a2 a4 a5 a6
  have eo : obT s = valW := by
    unfold obT
    rw [bld_eq]
    unfold okS at a4
    obtain ⟨b1, b⟩ := He.ba a4
    obtain ⟨b2, b⟩ := He.ba b
    obtain ⟨b3, b⟩ := He.ba b
    obtain ⟨b4, b⟩ := He.ba b
    obtain ⟨b5, b⟩ := He.ba b
    obtain ⟨b6, b7⟩ := He.ba b
    unfold obsK valW okB
    rw [a5, a2, b1, b2, b3, b4, b5, b6, b7]
    exact congrArg (fun z => (true, z)) a6
  show some (lk1 w s, lk2 s, obT s) = some (true, openGood qv names, valW)
  rw [a1, a3, eo]
end Hw
end
set_option maxHeartbeats 0
open PySem PySem.W PySem.Calls PyProof.Rows
theorem PySem.Challenge.cw_restchains_k88_whole_benches_by_single_b_holds : PySem.Challenge.rw_restchains_k88_whole_benches_by_single_b.Holds := by
  w_on; o_law
  refine HandSHeadRun.head_any (r := Hw.Rw) (q := Hw.qv) (H := Hw.hookW Hw.asW) (ob := Hw.obT) (M := 16384) (loose := Hw.names) (d := HandSHeadRun.topDef Hw.Rw.prog 95) (kwd := []) Hw.obT_eq
    (by kernel_rfl) (fun s => by kernel_rfl) Hw.run (by kernel_rfl) (by kernel_rfl) (by kernel_rfl) (by rfl) (by first | assumption | decide +kernel) (by decide +kernel) ⟨rfl, rfl, rfl, rfl, rfl, by decide +kernel⟩ ?hw ?hc
  case hw => w_witness2
  case hc =>
    refine Att.attach_callB (l := PySem.Challenge.rw_restchains_k88_whole_benches_by_single_b) (n := 63) rfl (by kernel_rfl) fun w s0 s1 mg mb fa o pm cd doc a vs ns G Y ho hd hcd hmg0 hobj hints hlen hbits hg => ?_
    obtain ⟨K, KX, c⟩ := Y
    have hmg : mg ("law" : PySem.Str) = some (.ref fa) := by
      have e : (HandSHeadRun.topDef Hw.Rw.prog 95).name = ("law" : PySem.Str) := by kernel_rfl
      rw [← e]
      exact hmg0
    exact Hw.law_go KX c hmg G.T.g G.T.b G.T.builtins G.T.nolimit hg G.T.bmain hobj hints (Nat.le_trans hlen (by decide))
