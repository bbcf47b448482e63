import PyProof.Rows.All
import Wide.All
import OpenK.AllK
import Wide.FinOn
import KE.KStateDown
import HandS.ForMost
import HandS.Defaults
import HandS.Head2
import HandS.HeadHook4
import HandS.Base
import HandS.Call
import HandS.Words
import HandS.Iter
import HandS.Walk
import KE.GoesEnum
import HandS.List
import HandS.Comp
import HandS.Dict
import HandS.DictComp
import PyProof.DictMoreH
import PyProof.ReprRoads
import PyProof.IsiH_set
import HandS.IsInst
import HandS.Lambda
import HandS.Nested
import PyProof.ReprText
import PyProof.StrBlockL
import PyProof.FitsInt
import HandS.Evl
import HandS.Wide
import HandS.TupAny
import HandS.Style
import HandS.EndBits
import PySem.Challenge.RW_onesilent_k74_whole_what_was_missed_tell
set_option Elab.async false
set_option linter.all false
set_option maxRecDepth 100000
set_option maxHeartbeats 0
/-! The text by places, and what the top leaves. -/
namespace Kn
open PySem PySem.Spec PyProof.Rows L2
def top (i : Nat) : Stmt := PySem.Challenge.pw_onesilent_k74_whole_what_was_missed_tell.main.body.getD i (.Pass ⟨0, 0, 0, 0⟩)

abbrev s_is_integer : Stmt := top 4
abbrev s_is_within : Stmt := top 5
abbrev s_is_many : Stmt := top 6
abbrev s_is_sized : Stmt := top 7
abbrev s_is_pair : Stmt := top 8
abbrev s_is_row_of : Stmt := top 9
abbrev s_is_row : Stmt := top 10
abbrev s_check_rounds : Stmt := top 20
abbrev s_is_miss : Stmt := top 21
abbrev s_is_round : Stmt := top 22
abbrev s_is_pattern_of : Stmt := top 23
abbrev s_check_pattern : Stmt := top 24
abbrev s_is_no_function : Stmt := top 26
abbrev s_Folk_init : Stmt := inClass (top 27) 0
abbrev s_first_memories : Stmt := top 28
abbrev s_heard_of : Stmt := top 29
abbrev s_next_memories : Stmt := top 30
abbrev s_told_answer : Stmt := top 31
abbrev s_raw_memories : Stmt := top 32
abbrev s_raw_answers : Stmt := top 33
abbrev s_check_run : Stmt := top 34
abbrev s_answers : Stmt := top 35
abbrev s_State_init : Stmt := inClass (top 39) 0
abbrev s_many_of : Stmt := top 40
abbrev s_done_by : Stmt := top 41
abbrev s_has_rounds : Stmt := top 42
abbrev s_write : Stmt := top 43
abbrev s_begun : Stmt := top 44
abbrev s_lacking : Stmt := top 45
abbrev s_can_go : Stmt := top 46
abbrev s_can_be : Stmt := top 47
abbrev s_come : Stmt := top 48
abbrev s_go : Stmt := top 49
abbrev s_write_again : Stmt := top 50
abbrev s_do : Stmt := top 51
abbrev s_answer_of : Stmt := top 52
abbrev s_Net_init : Stmt := inClass (top 53) 0
abbrev s_Net_event : Stmt := inClass (top 53) 2
abbrev s_Net_bag : Stmt := inClass (top 53) 3
abbrev s_Net_at : Stmt := inClass (top 53) 5
abbrev s_Net_missed : Stmt := inClass (top 53) 6
abbrev s_Net_answers : Stmt := inClass (top 53) 7
abbrev s_law_pot : Stmt := top 55
abbrev s_law_draw : Stmt := top 56
abbrev s_law_any : Stmt := top 57
abbrev s_law_shape : Stmt := top 58
abbrev s_law_begin : Stmt := top 59
abbrev s_law_step : Stmt := top 60
abbrev s_law_answer : Stmt := top 61
abbrev s_law_folk : Stmt := top 62
abbrev s_law_counted : Stmt := top 63
abbrev s_law_inputs : Stmt := top 64
abbrev s_law_write : Stmt := top 65
abbrev s_law_net : Stmt := top 66
abbrev s_law_lacks : Stmt := top 67
abbrev s_law_can : Stmt := top 68
abbrev s_law_go : Stmt := top 69
abbrev s_law_do : Stmt := top 70
abbrev s_law_event : Stmt := top 74
abbrev s_law_runs : Stmt := top 75
abbrev s_law_filled : Stmt := top 76
abbrev s_law_fits : Stmt := top 77
abbrev s_law_lengthened : Stmt := top 78
abbrev s_law_stays : Stmt := top 79
abbrev s_law : Stmt := top 80
def d_is_integer : He.DefD := ⟨("is_integer", none), "is_integer", "is_integer", defArgs s_is_integer, defBody s_is_integer, defScope s_is_integer, [], []⟩
def d_is_within : He.DefD := ⟨("is_within", none), "is_within", "is_within", defArgs s_is_within, defBody s_is_within, defScope s_is_within, [], []⟩
def d_is_many : He.DefD := ⟨("is_many", none), "is_many", "is_many", defArgs s_is_many, defBody s_is_many, defScope s_is_many, [], []⟩
def d_is_sized : He.DefD := ⟨("is_sized", none), "is_sized", "is_sized", defArgs s_is_sized, defBody s_is_sized, defScope s_is_sized, [], []⟩
def d_is_pair : He.DefD := ⟨("is_pair", none), "is_pair", "is_pair", defArgs s_is_pair, defBody s_is_pair, defScope s_is_pair, [], []⟩
def d_is_row_of : He.DefD := ⟨("is_row_of", none), "is_row_of", "is_row_of", defArgs s_is_row_of, defBody s_is_row_of, defScope s_is_row_of, [], []⟩
def d_is_row : He.DefD := ⟨("is_row", none), "is_row", "is_row", defArgs s_is_row, defBody s_is_row, defScope s_is_row, [], []⟩
def d_check_rounds : He.DefD := ⟨("check_rounds", none), "check_rounds", "check_rounds", defArgs s_check_rounds, defBody s_check_rounds, defScope s_check_rounds, [], []⟩
def d_is_miss : He.DefD := ⟨("is_miss", none), "is_miss", "is_miss", defArgs s_is_miss, defBody s_is_miss, defScope s_is_miss, [], []⟩
def d_is_round : He.DefD := ⟨("is_round", none), "is_round", "is_round", defArgs s_is_round, defBody s_is_round, defScope s_is_round, [], []⟩
def d_is_pattern_of : He.DefD := ⟨("is_pattern_of", none), "is_pattern_of", "is_pattern_of", defArgs s_is_pattern_of, defBody s_is_pattern_of, defScope s_is_pattern_of, [], []⟩
def d_check_pattern : He.DefD := ⟨("check_pattern", none), "check_pattern", "check_pattern", defArgs s_check_pattern, defBody s_check_pattern, defScope s_check_pattern, [], []⟩
def d_is_no_function : He.DefD := ⟨("is_no_function", none), "is_no_function", "is_no_function", defArgs s_is_no_function, defBody s_is_no_function, defScope s_is_no_function, [], []⟩
def d_Folk_init : He.DefD := ⟨("Folk", some "__init__"), "__init__", "Folk.__init__", defArgs s_Folk_init, defBody s_Folk_init, defScope s_Folk_init, [], []⟩
def d_first_memories : He.DefD := ⟨("first_memories", none), "first_memories", "first_memories", defArgs s_first_memories, defBody s_first_memories, defScope s_first_memories, [], []⟩
def d_heard_of : He.DefD := ⟨("heard_of", none), "heard_of", "heard_of", defArgs s_heard_of, defBody s_heard_of, defScope s_heard_of, [], []⟩
def d_next_memories : He.DefD := ⟨("next_memories", none), "next_memories", "next_memories", defArgs s_next_memories, defBody s_next_memories, defScope s_next_memories, [], []⟩
def d_told_answer : He.DefD := ⟨("told_answer", none), "told_answer", "told_answer", defArgs s_told_answer, defBody s_told_answer, defScope s_told_answer, [], []⟩
def d_raw_memories : He.DefD := ⟨("raw_memories", none), "raw_memories", "raw_memories", defArgs s_raw_memories, defBody s_raw_memories, defScope s_raw_memories, [], []⟩
def d_raw_answers : He.DefD := ⟨("raw_answers", none), "raw_answers", "raw_answers", defArgs s_raw_answers, defBody s_raw_answers, defScope s_raw_answers, [], []⟩
def d_check_run : He.DefD := ⟨("check_run", none), "check_run", "check_run", defArgs s_check_run, defBody s_check_run, defScope s_check_run, [], []⟩
def d_answers : He.DefD := ⟨("answers", none), "answers", "answers", defArgs s_answers, defBody s_answers, defScope s_answers, [], []⟩
def d_State_init : He.DefD := ⟨("State", some "__init__"), "__init__", "State.__init__", defArgs s_State_init, defBody s_State_init, defScope s_State_init, [], []⟩
def d_many_of : He.DefD := ⟨("many_of", none), "many_of", "many_of", defArgs s_many_of, defBody s_many_of, defScope s_many_of, [], []⟩
def d_done_by : He.DefD := ⟨("done_by", none), "done_by", "done_by", defArgs s_done_by, defBody s_done_by, defScope s_done_by, [], []⟩
def d_has_rounds : He.DefD := ⟨("has_rounds", none), "has_rounds", "has_rounds", defArgs s_has_rounds, defBody s_has_rounds, defScope s_has_rounds, [], []⟩
def d_write : He.DefD := ⟨("write", none), "write", "write", defArgs s_write, defBody s_write, defScope s_write, [], []⟩
def d_begun : He.DefD := ⟨("begun", none), "begun", "begun", defArgs s_begun, defBody s_begun, defScope s_begun, [], []⟩
def d_lacking : He.DefD := ⟨("lacking", none), "lacking", "lacking", defArgs s_lacking, defBody s_lacking, defScope s_lacking, [], []⟩
def d_can_go : He.DefD := ⟨("can_go", none), "can_go", "can_go", defArgs s_can_go, defBody s_can_go, defScope s_can_go, [], []⟩
def d_can_be : He.DefD := ⟨("can_be", none), "can_be", "can_be", defArgs s_can_be, defBody s_can_be, defScope s_can_be, [], []⟩
def d_come : He.DefD := ⟨("come", none), "come", "come", defArgs s_come, defBody s_come, defScope s_come, [], []⟩
def d_go : He.DefD := ⟨("go", none), "go", "go", defArgs s_go, defBody s_go, defScope s_go, [], []⟩
def d_write_again : He.DefD := ⟨("write_again", none), "write_again", "write_again", defArgs s_write_again, defBody s_write_again, defScope s_write_again, [], []⟩
def d_do : He.DefD := ⟨("do", none), "do", "do", defArgs s_do, defBody s_do, defScope s_do, [], []⟩
def d_answer_of : He.DefD := ⟨("answer_of", none), "answer_of", "answer_of", defArgs s_answer_of, defBody s_answer_of, defScope s_answer_of, [], []⟩
def d_Net_init : He.DefD := ⟨("Net", some "__init__"), "__init__", "Net.__init__", defArgs s_Net_init, defBody s_Net_init, defScope s_Net_init, [], []⟩
def d_Net_event : He.DefD := ⟨("Net", some "event"), "event", "Net.event", defArgs s_Net_event, defBody s_Net_event, defScope s_Net_event, [], []⟩
def d_Net_bag : He.DefD := ⟨("Net", some "bag"), "bag", "Net.bag", defArgs s_Net_bag, defBody s_Net_bag, defScope s_Net_bag, [], []⟩
def d_Net_at : He.DefD := ⟨("Net", some "at"), "at", "Net.at", defArgs s_Net_at, defBody s_Net_at, defScope s_Net_at, [], []⟩
def d_Net_missed : He.DefD := ⟨("Net", some "missed"), "missed", "Net.missed", defArgs s_Net_missed, defBody s_Net_missed, defScope s_Net_missed, [], []⟩
def d_Net_answers : He.DefD := ⟨("Net", some "answers"), "answers", "Net.answers", defArgs s_Net_answers, defBody s_Net_answers, defScope s_Net_answers, [], []⟩
def d_law_pot : He.DefD := ⟨("_law_pot", none), "_law_pot", "_law_pot", defArgs s_law_pot, defBody s_law_pot, defScope s_law_pot, [], []⟩
def d_law_draw : He.DefD := ⟨("_law_draw", none), "_law_draw", "_law_draw", defArgs s_law_draw, defBody s_law_draw, defScope s_law_draw, [], []⟩
def d_law_any : He.DefD := ⟨("_law_any", none), "_law_any", "_law_any", defArgs s_law_any, defBody s_law_any, defScope s_law_any, [], []⟩
def d_law_shape : He.DefD := ⟨("_law_shape", none), "_law_shape", "_law_shape", defArgs s_law_shape, defBody s_law_shape, defScope s_law_shape, [], []⟩
def d_law_begin : He.DefD := ⟨("_law_begin", none), "_law_begin", "_law_begin", defArgs s_law_begin, defBody s_law_begin, defScope s_law_begin, [], []⟩
def d_law_step : He.DefD := ⟨("_law_step", none), "_law_step", "_law_step", defArgs s_law_step, defBody s_law_step, defScope s_law_step, [], []⟩
def d_law_answer : He.DefD := ⟨("_law_answer", none), "_law_answer", "_law_answer", defArgs s_law_answer, defBody s_law_answer, defScope s_law_answer, [], []⟩
def d_law_folk : He.DefD := ⟨("_law_folk", none), "_law_folk", "_law_folk", defArgs s_law_folk, defBody s_law_folk, defScope s_law_folk, [], []⟩
def d_law_counted : He.DefD := ⟨("_law_counted", none), "_law_counted", "_law_counted", defArgs s_law_counted, defBody s_law_counted, defScope s_law_counted, [], []⟩
def d_law_inputs : He.DefD := ⟨("_law_inputs", none), "_law_inputs", "_law_inputs", defArgs s_law_inputs, defBody s_law_inputs, defScope s_law_inputs, [], []⟩
def d_law_write : He.DefD := ⟨("_law_write", none), "_law_write", "_law_write", defArgs s_law_write, defBody s_law_write, defScope s_law_write, [], []⟩
def d_law_net : He.DefD := ⟨("_law_net", none), "_law_net", "_law_net", defArgs s_law_net, defBody s_law_net, defScope s_law_net, [], []⟩
def d_law_lacks : He.DefD := ⟨("_law_lacks", none), "_law_lacks", "_law_lacks", defArgs s_law_lacks, defBody s_law_lacks, defScope s_law_lacks, [], []⟩
def d_law_can : He.DefD := ⟨("_law_can", none), "_law_can", "_law_can", defArgs s_law_can, defBody s_law_can, defScope s_law_can, [], []⟩
def d_law_go : He.DefD := ⟨("_law_go", none), "_law_go", "_law_go", defArgs s_law_go, defBody s_law_go, defScope s_law_go, [], []⟩
def d_law_do : He.DefD := ⟨("_law_do", none), "_law_do", "_law_do", defArgs s_law_do, defBody s_law_do, defScope s_law_do, [], []⟩
def d_law_event : He.DefD := ⟨("_law_event", none), "_law_event", "_law_event", defArgs s_law_event, defBody s_law_event, defScope s_law_event, [], []⟩
def d_law_runs : He.DefD := ⟨("_law_runs", none), "_law_runs", "_law_runs", defArgs s_law_runs, defBody s_law_runs, defScope s_law_runs, [], []⟩
def d_law_filled : He.DefD := ⟨("_law_filled", none), "_law_filled", "_law_filled", defArgs s_law_filled, defBody s_law_filled, defScope s_law_filled, [], []⟩
def d_law_fits : He.DefD := ⟨("_law_fits", none), "_law_fits", "_law_fits", defArgs s_law_fits, defBody s_law_fits, defScope s_law_fits, [], []⟩
def d_law_lengthened : He.DefD := ⟨("_law_lengthened", none), "_law_lengthened", "_law_lengthened", defArgs s_law_lengthened, defBody s_law_lengthened, defScope s_law_lengthened, [], []⟩
def d_law_stays : He.DefD := ⟨("_law_stays", none), "_law_stays", "_law_stays", defArgs s_law_stays, defBody s_law_stays, defScope s_law_stays, [], []⟩
def d_law : He.DefD := ⟨("law", none), "law", "law", defArgs s_law, defBody s_law, defScope s_law, [], []⟩
def fn : List He.DefD := [d_is_integer, d_is_within, d_is_many, d_is_sized, d_is_pair, d_is_row_of, d_is_row, d_check_rounds, d_is_miss, d_is_round, d_is_pattern_of, d_check_pattern, d_is_no_function, d_Folk_init, d_first_memories, d_heard_of, d_next_memories, d_told_answer, d_raw_memories, d_raw_answers, d_check_run, d_answers, d_State_init, d_many_of, d_done_by, d_has_rounds, d_write, d_begun, d_lacking, d_can_go, d_can_be, d_come, d_go, d_write_again, d_do, d_answer_of, d_Net_init, d_Net_event, d_Net_bag, d_Net_at, d_Net_missed, d_Net_answers, d_law_pot, d_law_draw, d_law_any, d_law_shape, d_law_begin, d_law_step, d_law_answer, d_law_folk, d_law_counted, d_law_inputs, d_law_write, d_law_net, d_law_lacks, d_law_can, d_law_go, d_law_do, d_law_event, d_law_runs, d_law_filled, d_law_fits, d_law_lengthened, d_law_stays, d_law]
def fa : List He.Fa := [.glo "is_integer", .glo "is_within", .glo "is_many", .glo "is_sized", .glo "is_pair", .glo "is_row_of", .glo "is_row", .glo "check_rounds", .glo "is_miss", .glo "is_round", .glo "is_pattern_of", .glo "check_pattern", .glo "is_no_function", .glo "first_memories", .glo "heard_of", .glo "next_memories", .glo "told_answer", .glo "raw_memories", .glo "raw_answers", .glo "check_run", .glo "answers", .glo "many_of", .glo "done_by", .glo "has_rounds", .glo "write", .glo "begun", .glo "lacking", .glo "can_go", .glo "can_be", .glo "come", .glo "go", .glo "write_again", .glo "do", .glo "answer_of", .glo "_law_pot", .glo "_law_draw", .glo "_law_any", .glo "_law_shape", .glo "_law_begin", .glo "_law_step", .glo "_law_answer", .glo "_law_folk", .glo "_law_counted", .glo "_law_inputs", .glo "_law_write", .glo "_law_net", .glo "_law_lacks", .glo "_law_can", .glo "_law_go", .glo "_law_do", .glo "_law_event", .glo "_law_runs", .glo "_law_filled", .glo "_law_fits", .glo "_law_lengthened", .glo "_law_stays", .glo "law", .glo "Folk", .cls "Folk", .mkr "Folk", .glo "State", .cls "State", .mkr "State", .glo "Net", .cls "Net", .mkr "Net", .free "len", .free "range", .free "isinstance", .free "int", .free "bool", .free "tuple", .free "list", .free "dict", .free "str", .free "all", .free "enumerate", .free "abs", .free "repr", .free "min", .int "LEAST_MANY" 3, .int "MOST_MANY" 5, .int "MOST_ROUNDS" 30, .glo "WORDS_OF_LETTERS", .glo "WORDS_OF_MACHINES", .noat "Folk" "rounds", .noat "Folk" "kept_begin", .noat "Folk" "kept_step", .noat "Folk" "kept_answer", .noat "State" "folk", .noat "State" "inputs", .noat "State" "bag", .noat "State" "are_up", .noat "State" "notes", .noat "State" "missed", .noat "State" "kept", .noat "Net" "kept_state", .meth "Net" "event", .meth "Net" "bag", .meth "Net" "at", .meth "Net" "missed", .meth "Net" "answers"]
def tfs : List He.Defn := [("_law_folk", none)]
def exf (K : PySem.W.Frag) : Bool := He.tupB K "WORDS_OF_LETTERS" [.str "come", .str "double"] && He.tupB K "WORDS_OF_MACHINES" [.str "go", .str "fall", .str "rise", .str "again"]
abbrev R : PySem.W.OpenRow := PySem.W.OpenLaw.row PySem.Challenge.rw_onesilent_k74_whole_what_was_missed_tell
abbrev hk : PySem.W.Hook := He.hookX 4 fa fn [] tfs exf
def ob (s : PySem.W.SharedT) : He.AlX := He.obsX 4 fa fn [] tfs exf (HandSHeadRun.getT s)
theorem ob_eq (s : PySem.W.SharedT) : ob s = hk.obs s.abs := He.obsX_eq (HandSHeadRun.getT_eq s)
def names0 : List PySem.Str := ["_wall", "LEAST_MANY", "MOST_MANY", "is_integer", "is_within", "is_many", "is_sized", "is_pair", "is_row_of", "is_row", "SilentError", "NoRow", "NoNumber", "NoPattern", "NoEvent"]
def names1 : List PySem.Str := ["NoFunction", "MOST_ROUNDS", "check_rounds", "is_miss", "is_round", "is_pattern_of", "check_pattern", "is_no_function", "Folk", "first_memories", "heard_of", "next_memories", "told_answer", "raw_memories", "raw_answers"]
def names2 : List PySem.Str := ["check_run", "answers", "WORDS_OF_LETTERS", "WORDS_OF_MACHINES", "State", "many_of", "done_by", "has_rounds", "write", "begun", "lacking", "can_go", "can_be", "come", "go"]
def names3 : List PySem.Str := ["write_again", "do", "answer_of", "Net", "_law_pot", "_law_draw", "_law_any", "_law_shape", "_law_begin", "_law_step", "_law_answer", "_law_folk", "_law_counted", "_law_inputs", "_law_write"]
def names4 : List PySem.Str := ["_law_net", "_law_lacks", "_law_can", "_law_go", "_law_do", "_law_answers", "_law_shown", "_law_told", "_law_event", "_law_runs", "_law_filled", "_law_fits", "_law_lengthened", "_law_stays"]
def names : List PySem.Str := names0 ++ names1 ++ names2 ++ names3 ++ names4
theorem run (w : World) : HandSHeadRun.RunEq R (PySem.W.view R.prog [80]) hk ob 6000 names w := by
  intro os
  kernel_rfl
end Kn

set_option Elab.async false
set_option linter.all false
set_option maxRecDepth 100000
set_option maxHeartbeats 4000000
/-! Layer G: what a def promises where nothing is being shown (no guard on the stack); no exception leaves it. -/
namespace Kn
open PySem PySem.Spec PyProof.Rows L2
/-- a promise: arguments, heap, wanted end -/
abbrev GS := List V → Hp → VK → Prop
/-- what is fixed through the whole law -/
structure Wd where
  P : Program
  w : World
  K : PySem.W.Frag
  mg : Str → Option Value
  base : Heap
abbrev wdOf (X : Cx) : Wd := ⟨X.prog, X.w, X.K, X.mg, X.base⟩
structure FnG (W : Wd) (k : Nat) (f : Addr) (fd : FuncData) (ps : List Str) (sp : GS) : Prop where
  len : ∀ vs H Q, sp vs H Q → vs.length = ps.length
  run : ∀ (A : Around) (outer : List Env) (s : Shared) (H : Hp) (args : Args) (us : List Value) (vs : List V) (Q : VK), Room k A → A.guards = some [] →
    Env0 W.P W.w W.K W.mg W.base A outer s H → BindsTo s fd args (ps.zip us) → Vals vs us → sp vs H Q →
    codeAny (model W.P W.w) A (.call (.ref f) args) (CR CX0 outer W.P W.w H s Q E0) s
abbrev cxG (W : Wd) (N : List Str) (qual : Str) (sc : Scope) (f : Addr) (cdv : Value) (A : Around) (outer : List Env) (s : Shared) (H : Hp) : Cx := (cxOf CX0 W.P W.w W.K W.mg W.base N qual sc f cdv A outer s H E0).nox
theorem room_dec {k : Nat} {A : Around} {env : Env} (r : Room (k + 1) A) : Room k (A.deeper env) := Room.deeper r env
/-- a def of the text by its body -/
theorem fng_of {W : Wd} {k : Nat} {f : Addr} {fd : FuncData} {x qual : Str} {pr : Arguments} {bd : List Stmt} {sc : Scope} {N ps : List Str} {sp : GS}
    (F : FunD W.K x qual pr bd sc [] [] f fd) (S : FnScope N ps sc) (hl : ∀ vs H Q, sp vs H Q → vs.length = ps.length)
    (hb : ∀ (cdv : Value) (A : Around) (outer : List Env) (s : Shared) (H : Hp) (vs : List V) (Q : VK), Room k (A.deeper (envOfC qual sc s.heap.objs.size f cdv)) → A.guards = some [] → sp vs H Q →
      ∃ t, PSs (cxG W N qual sc f cdv A outer s H) bd t ∧ t { nx := fun _ H1 => Q .non H1, rt := Q } (start N vs) H) :
    FnG W (k + 1) f fd ps sp := by
  obtain ⟨oc, od, dV, kV, doc, pm, an, cdv, ct, osl, rfl, lk, hcd, _, _⟩ := F.ex
  refine ⟨hl, fun A outer s H args us vs Q rm hg env0 bnd rel want => ?_⟩
  have inK : W.K.In s.heap := env0.mod.kin.keeps fun b o e => (env0.bs b o e).1
  have nolim : s.heap.NoLimit := env0.mod.nolimit.keeps fun b o e => (env0.bs b o e).1
  refine codeAny_call_function rm.depth (inK _ _ lk) rfl S.co S.gen rfl (PySem.W.codeRec_of inK hcd) (bnd _ _ _ _ ?_)
  refine wpAny_newFunctionEnv_cells S.kind (fun y hy => ?_) fun env he s1 x => ?_
  · rcases S.par y.1 (List.of_mem_zip hy).1 with q | q
    · exact Or.inl q
    · exact Or.inr ⟨q, PySem.W.cellsFrom_some _ _ _ (Or.inl q)⟩
  subst he
  refine ⟨nolim.keeps x.toInCall.keep, codeAny_func ?_⟩
  obtain ⟨t, run, fin⟩ := hb cdv A outer s H vs Q (room_dec rm) hg want
  have I0 := inv_start (CX := CX0) (E := E0) S rm.hd env0 (hl _ _ _ want) rel x
  have last : ∀ {σ1 : L2.St} {H1 : Hp} {s1 : Shared} {v : V} {u : Value}, Inv (cxG W N qual sc f cdv A outer s H) [] σ1 H1 s1 → RelV v u → Q v H1 → CE outer W.P W.w H s Q u s1 :=
    fun {σ1 H1 s1 v u} J rv q => ⟨v, H1, J.os, J.bare, J.base, J.hok, rv, q⟩
  refine wpAny_mono (run.run [] s1 (start N vs) H _ (I0.wish _) fin) (fun fl s2 out => ?_) fun _ _ z => False.elim z
  cases fl with
  | next =>
    obtain ⟨σ1, H1, J, q⟩ := out
    exact last (v := V.non) (u := Value.none) J rfl q
  | ret u =>
    obtain ⟨v, σ1, H1, J, rv, q⟩ := out
    exact last J rv q
  | brk =>
    obtain ⟨_, _, _, q⟩ := out
    exact q.elim
  | cont =>
    obtain ⟨_, _, _, q⟩ := out
    exact q.elim
/-! ### calls -/
/-- a module's def by its name -/
structure Cal (W : Wd) (x : Str) (k : Nat) (sp : GS) : Prop where
  ex : ∃ (f : Addr) (fd : FuncData) (ps : List Str), FnG W k f fd ps sp ∧ W.mg x = some (.ref f) ∧ PySem.W.keepIn W.K (.ref f) = true ∧ Binds W.K fd ps []
/-- a method of the class at C -/
structure Met (W : Wd) (C : Addr) (m : Str) (k : Nat) (sp : GS) : Prop where
  ex : ∃ (f : Addr) (fd : FuncData) (ps : List Str), FnG W k f fd ps sp ∧ Meth W.K C m f ∧ Binds W.K fd ps []
/-- a class by its name, its __init__ -/
structure Mak (W : Wd) (x : Str) (C : Addr) (k : Nat) (sp : GS) : Prop where
  ex : ∃ (f : Addr) (fd : FuncData) (ps : List Str), FnG W k f fd ps sp ∧ Mk W.K C f ∧ W.mg x = some (.ref C) ∧ Binds W.K fd ps []
section
variable {X : Cx} {W : Wd} {k j : Nat} {x m : Str} {sp : GS} {p pos apos : Pos} {e o : Expr} {es : List Expr} {ta : TE} {t : TA} {C : Addr}
theorem run_g {f : Addr} {fd : FuncData} {ps : List Str} {pins : List (Addr × Obj)} {σ : L2.St} {H : Hp} {s : Shared} {Q : VK} {us : List Value} {vs : List V} (F : FnG (wdOf X) k f fd ps sp) (rm : Room k X.A) (hg : X.A.guards = some []) (bn : Binds X.K fd ps [])
    (I : Inv X pins σ H s) (rel : Vals vs us) (want : sp vs H Q) : wpAny (model X.prog X.w) X.A (call (.ref f) us) (EP X pins σ Q) X.xe s := by
  have hlen : (us ++ []).length = ps.length := by
    rw [List.append_nil, ← rel.length]
    exact F.len _ _ _ want
  have bb := bn s us I.kIn hlen
  rw [List.append_nil] at bb
  refine wpAny_call (codeAny_mono (F.run X.A X.stack s H ⟨us, []⟩ us vs Q rm hg I.env0 bb rel want) fun r s1 out => ?_)
  cases r with
  | error e => exact out.elim
  | ok fl =>
    cases fl with
    | ret u => exact I.after out
    | next => exact out.elim
    | brk => exact out.elim
    | cont => exact out.elim
def tCal (sp : GS) (t : TA) : TE := fun σ H Q => t σ H fun vs H1 => sp vs H1 Q
theorem pe_cal (c : Cal W x k sp) (hW : wdOf X = W) (rm : Room j X.A) (hk : k ≤ j) (hg : X.A.guards = some []) (hx : Gl X x) (ha : PA X (e :: es) t) (hdb : (x == ("__debug__" : Str)) = false := by decide)
    (he : starEach (e :: es) X.env = (false, eval e X.env) :: starEach es X.env := by rfl) (hpl : (backTo pos (starEach es X.env)).any (·.1) = false := by rfl) : PE X (.Call (.Name x p) (e :: es) [] pos) (tCal sp t) := by
  subst hW
  obtain ⟨f, fd, ps, F, hm, kp, bn⟩ := c.ex
  refine ⟨fun pins s σ H Q I h => wpAny_Call_Name_kw (ld_glob I hx hm ?_ hdb)⟩
  refine PySem.W.callWith_K (h₀ := X.base) I.ok.mod.kin kp (thn (ha.run pos pins s σ H _ I h) fun us s1 z => ?_) he hpl
  obtain ⟨vs, H1, I1, rel, q⟩ := z
  exact ⟨I1.kIn, run_g F (rm.mono hk) hg bn I1 rel q⟩
def tMtd (C : Addr) (m : Str) (sp : GS) (ta : TE) (t : TA) : TE := fun σ H Q => ta σ H fun x H1 => ∃ a dx fs, x = .ref a ∧ H1 a = some (.ins C dx fs) ∧ fs.lookup m = none ∧ t σ H1 fun vs H2 => sp (x :: vs) H2 Q
theorem pe_mtd {pl : Sem Bool} (he : PE X o ta) (c : Cls X.K C) (d : Met W C m k sp) (hW : wdOf X = W) (rm : Room j X.A) (hk : k ≤ j) (hg : X.A.guards = some []) (ha : PA X (e :: es) t)
    (hst : starEach (e :: es) X.env = (false, eval e X.env) :: starEach es X.env := by rfl) (hpl : (backTo pos (starEach es X.env)).any (·.1) = false := by rfl)
    (ht : eval (.Call (.Attribute o m apos) (e :: es) [] pos) X.env = (do
      let ov ← eval o X.env
      standAt apos.atName
      let (f, first) ← holding [ov] (getMethod ov m pl)
      callWith pos f first (backTo pos (starEach (e :: es) X.env)) (backToKw pos (keywordEach [] X.env))) := by rfl) :
    PE X (.Call (.Attribute o m apos) (e :: es) [] pos) (tMtd C m sp ta t) := by
  subst hW
  obtain ⟨f, fd, ps, F, hm, bn⟩ := d.ex
  refine ⟨fun pins s σ H Q I h => PySem.W.methodCall_KW (pl := pl) (thn (he.run pins s σ H _ I h) fun u s1 z => ?_) ht⟩
  obtain ⟨y, H1, I1, ry, a, dx, fs, rfl, ia, nl, q⟩ := z
  obtain rfl : u = Value.ref a := ry
  refine getmeth_ok I1 ia c hm nl ?_
  refine PySem.W.callWith_K (first := [.ref a]) (h₀ := X.base) I.ok.mod.kin hm.kp (thn (ha.run pos pins s1 σ H1 _ I1 q) fun us s2 z2 => ?_) hst hpl
  obtain ⟨vs, H2, I2, rel, q2⟩ := z2
  exact ⟨I2.kIn, run_g (us := .ref a :: us) (vs := .ref a :: vs) F (rm.mono hk) hg bn I2 (.cons rfl rel) q2⟩
theorem pe_mtd0 {pl : Sem Bool} (he : PE X o ta) (c : Cls X.K C) (d : Met W C m k sp) (hW : wdOf X = W) (rm : Room j X.A) (hk : k ≤ j) (hg : X.A.guards = some [])
    (ht : eval (.Call (.Attribute o m apos) [] [] pos) X.env = (do
      let ov ← eval o X.env
      standAt apos.atName
      let (f, first) ← holding [ov] (getMethod ov m pl)
      callWith pos f first (backTo pos (starEach [] X.env)) (backToKw pos (keywordEach [] X.env))) := by rfl) :
    PE X (.Call (.Attribute o m apos) [] [] pos) (tMtd C m sp ta tNil) := by
  subst hW
  obtain ⟨f, fd, ps, F, hm, bn⟩ := d.ex
  refine ⟨fun pins s σ H Q I h => PySem.W.methodCall_KW (pl := pl) (thn (he.run pins s σ H _ I h) fun u s1 z => ?_) ht⟩
  obtain ⟨y, H1, I1, ry, a, dx, fs, rfl, ia, nl, q⟩ := z
  obtain rfl : u = Value.ref a := ry
  refine getmeth_ok I1 ia c hm nl ?_
  exact PySem.W.callWith_K0 (first := [.ref a]) I1.kIn hm.kp (run_g (us := [.ref a]) (vs := [.ref a]) F (rm.mono hk) hg bn I1 (.cons rfl .nil) q)
theorem make_guards {A : Around} {C : Addr} {us : List Value} {kw : List (Str × Value)} : (A.under (.builtin "type.__call__" ⟨.ref C :: us, kw⟩)).guards = A.guards := by
  first | rfl | simp [Around.under, Code.guards, Code.isGuard, guardIds, pushGuards]
def tMkg (C : Addr) (sp : GS) (t : TA) : TE := fun σ H Q => t σ H fun vs H1 => ∀ x dx, H1 x = none → H1 dx = none → dx ≠ x →
  sp (.ref x :: vs) (upd (upd H1 dx (.own x)) x (.ins C dx [])) (fun v H2 => v = .non ∧ Q (.ref x) H2)
theorem pe_mkg (c : Mak W x C k sp) (hW : wdOf X = W) (rm : Room j X.A) (hk : k + 1 ≤ j) (hg : X.A.guards = some []) (hx : Gl X x) (ha : PA X (e :: es) t) (hdb : (x == ("__debug__" : Str)) = false := by decide)
    (he : starEach (e :: es) X.env = (false, eval e X.env) :: starEach es X.env := by rfl) (hpl : (backTo pos (starEach es X.env)).any (·.1) = false := by rfl) : PE X (.Call (.Name x p) (e :: es) [] pos) (tMkg C sp t) := by
  subst hW
  obtain ⟨f, fd, ps, F, mk, hm, bn⟩ := c.ex
  refine ⟨fun pins s σ H Q I h => wpAny_Call_Name_kw (ld_glob I hx hm ?_ hdb)⟩
  refine PySem.W.callWith_K (h₀ := X.base) I.ok.mod.kin mk.kp (thn (ha.run pos pins s σ H _ I h) fun us s1 z => ?_) he hpl
  obtain ⟨vs, H1, I1, rel, q⟩ := z
  refine ⟨I1.kIn, ?_⟩
  have n0 : H1 s1.heap.objs.size = none := I1.hok.fresh (Nat.le_refl _)
  have n1 : H1 (s1.heap.objs.size + 1) = none := I1.hok.fresh (Nat.le_succ _)
  have want := q (s1.heap.objs.size + 1) s1.heap.objs.size n1 n0 (Nat.ne_of_lt (Nat.lt_succ_self _))
  have I2 := Inv.made (C := C) I1
  have rel2 : Vals (V.ref (s1.heap.objs.size + 1) :: vs) (Value.ref (s1.heap.objs.size + 1) :: us) := .cons rfl rel
  have hlen : ((Value.ref (s1.heap.objs.size + 1) :: us) ++ []).length = ps.length := by
    rw [List.append_nil, ← rel2.length]
    exact F.len _ _ _ want
  have bb := bn _ (Value.ref (s1.heap.objs.size + 1) :: us) I2.kIn hlen
  rw [List.append_nil] at bb
  refine wpAny_call (make_map (f := f) I1.kIn mk.makes mk.init (beq_iff_eq.mp mk.fn) (codeAny_mono (F.run _ X.stack _ _ ⟨Value.ref (s1.heap.objs.size + 1) :: us, []⟩ _ _ _ ((rm.mono hk).make C us [])
    (make_guards.trans hg) (I2.env0.make C us []) bb rel2 want) fun r s2 out => ?_))
  cases r with
  | error e => exact out.elim
  | ok fl =>
    cases fl with
    | ret u =>
      obtain ⟨v, H3, I3, rv, ev, q3⟩ := I2.after out
      subst ev
      exact ⟨rv, ⟨V.ref (s1.heap.objs.size + 1), H3, I3, rfl, q3⟩⟩
    | next => exact out.elim
    | brk => exact out.elim
    | cont => exact out.elim
end
end Kn

set_option Elab.async false
set_option linter.all false
set_option maxRecDepth 100000
set_option maxHeartbeats 4000000
/-! enumerate(t), t a tuple -/
namespace KnE
open PySem PySem.Spec PyProof.Rows L2
abbrev itObj (t : Addr) : Obj := { cls := .type "tuple_iterator", data := .fields #[.ref t, .int 0 0] }
abbrev enObj (i : Addr) : Obj := { cls := .type "enumerate", data := .fields #[.none, .bool false, .ref i, rawInt 0, .none, .none] }
theorem meets_enum1 (t : Addr) (items : Array Value) :
    Meets (Builtin.«enumerate.__new__» ⟨[.type "enumerate", .ref t], []⟩) (fun _ R s => s.heap.IsTuple t items ∧
      R (.ok (.ret (.ref (s.heap.push (itObj t)).objs.size))) { s with heap := (s.heap.push (itObj t)).push (enObj s.heap.objs.size) }) :=
  .of_wp fun prog w A R s hs => by
    obtain ⟨hp, g, d, tk, os⟩ := s
    obtain ⟨h1, fin⟩ := hs
    have isub := sub_enumerate
    have q1 : ∀ {A2 : Around} {E2 : Value → Shared → Prop} {Q2 : Value → Shared → Prop}, Q2 (.ref hp.objs.size) ⟨hp.push (itObj t), g, d, tk, os⟩ → wpAny (model prog w) A2 (pyIter (.ref t)) Q2 E2 ⟨hp, g, d, tk, os⟩ :=
      fun q => wpAny_pyIter_tuple (s := ⟨hp, g, d, tk, os⟩) h1 q
    obtain ⟨o, ho, hcl, n, hd⟩ := id h1
    wp_walk using q1
    refine wpAny_stack_any fun st => wpAny_pure ?_
    split
    · rename_i c _ _ _ _ _
      cases (c == Value.type "enumerate") <;> (wp_walk using q1; exact ⟨_, rfl, fin⟩)
    · wp_walk using q1
      exact ⟨_, rfl, fin⟩
theorem call_enum1 {prog : Program} {w : World} {A : Around} {E : Value → Shared → Prop} {s : Shared} {t : Addr} {items : Array Value} {Q : Value → Shared → Prop} (h1 : s.heap.IsTuple t items)
    (h : ∀ h2, IsEnum h2 (s.heap.objs.size + 1) s.heap.objs.size 0 .none → h2.get? s.heap.objs.size = some (itObj t) → (∀ b o, s.heap.get? b = some o → h2.get? b = some o) → Q (.ref (s.heap.objs.size + 1)) { s with heap := h2 }) :
    wpAny (model prog w) A (call (.type "enumerate") [.ref t]) Q E s := by
  refine callType_new F.called_enumerate (by decide) (F.typeCall_enumerate_1 _) (F.newCall_enumerate_1 _) (fun obj => F.args_object_init_2 obj _) F.entry_enumerate_new (meets_enum1 t items) ⟨h1, ?_⟩
  have hz : (s.heap.push (itObj t)).objs.size = s.heap.objs.size + 1 := Heap.size_push ..
  show _ ∧ _
  rw [hz]
  have he : IsEnum ((s.heap.push (itObj t)).push (enObj s.heap.objs.size)) (s.heap.objs.size + 1) s.heap.objs.size 0 .none := by
    have z := Heap.get?_push_size (s.heap.push (itObj t)) (o := enObj s.heap.objs.size) rfl
    rw [hz] at z
    exact z
  exact ⟨⟨_, he, rfl⟩, h _ he (Heap.get?_push_of_some _ (Heap.get?_push_size _ rfl)) fun b o q => Heap.get?_push_of_some _ (Heap.get?_push_of_some _ q)⟩
/-- the tuple at a, each item in a new pair with its number -/
def Itet (K : PySem.W.Frag) (a : Addr) : It :=
  ⟨fun i H => ∃ (xs : List V) (x : V), SqT K H a xs ∧ xs[i]? = some x, fun i H v H2 => ∃ T x, v = .ref T ∧ H T = none ∧ H2 = upd H T (.tup [.int (i : Nat), x]) ∧ ∀ xs, SqT K H a xs → xs[i]? = some x,
    fun i H => ∃ xs : List V, SqT K H a xs ∧ xs.length ≤ i⟩
theorem turn_enumT {P : Program} {w : World} {K : PySem.W.Frag} {elts : List Expr} {kk : Nat} {tpos : Pos} (a e it : Addr) :
    Turn P w K (.Tuple elts kk tpos) (Itet K a) [e, it] e (fun i h => (∃ old, IsEnum h e it ((i : Nat) : Int) old) ∧ h.IsTupleIter it a i ∧ e ≠ it) where
  mem := List.mem_cons_self ..
  obj := fun i h st b hb => by
    obtain ⟨⟨old, he⟩, ⟨o, ho, hc, hd⟩, _⟩ := st
    rcases (by simpa using hb : b = e ∨ b = it) with z | z
    · subst z; exact ⟨_, he, fun v q => nomatch q⟩
    · subst z; exact ⟨o, ho, fun v q => by rw [hd] at q; cases q⟩
  keep := fun i h h2 st k => by
    obtain ⟨⟨old, he⟩, hi, hne⟩ := st
    exact ⟨⟨old, k e (List.mem_cons_self ..) _ he⟩, hi.at fun o q => k it (by simp) o q, hne⟩
  item := by
    intro X hP hw hK hc i pins s σ H E I hf st hg
    subst hP hw hK
    obtain ⟨⟨old, he⟩, hit, hne⟩ := st
    obtain ⟨xs, x, hq, hx⟩ := hg
    obtain ⟨its, rv, p, hz⟩ := I.tuple hq
    obtain ⟨u, hu, ru⟩ := rv.get hx
    have hel : e < s.heap.objs.size := Heap.lt_size he
    have hil : it < s.heap.objs.size := by
      obtain ⟨_, q, _⟩ := hit
      exact Heap.lt_size q
    have hai : a ≠ it := fun z => by
      obtain ⟨o1, e1, c1, _⟩ := hit
      obtain ⟨o2, e2, c2, _⟩ := p
      rw [z, e1] at e2
      cases e2
      rw [c1] at c2
      exact absurd c2 (by decide +kernel)
    have hea : e ∉ [it, a] := fun z => by
      rcases (by simpa using z : e = it ∨ e = a) with q | q
      · exact hne q
      · obtain ⟨o2, e2, c2, _⟩ := p
        rw [← q] at e2
        have e3 : s.heap.get? e = _ := he
        rw [e3] at e2
        cases e2
        exact absurd (show Value.type "enumerate" = Value.type "tuple" from c2) (by decide +kernel)
    have hlt : i < its.toArray.size := by
      have l1 := (List.getElem?_eq_some_iff.mp hx).1
      have l2 := rv.length
      simp
      omega
    have Dr := Draws.tuple (prog := X.prog) (w := X.w) (A := X.A.in1) (I.ok.hd hc) it a hai its.toArray
    refine wpAny_pyNext_enum_itemD Dr he ⟨hit, (show s.heap.IsTuple a its.toArray from p)⟩ hlt hne hea fun y h2 tk hP ho hst2 hT hsz hk => ?_
    have ey : y = u := by
      have z : its.toArray[i]? = some u := by simpa using hu
      exact Option.some.inj (hP.symm.trans z)
    subst ey
    refine ⟨_, rfl, wpAny_letOwnedTupleGo_enum (s := { s with heap := h2, toks := tk + 1 }) ho fun h3 he3 sb => ?_⟩
    have hT2 : h3.get? s.heap.objs.size = some { cls := .type "tuple", data := .seq #[.int i tk, y] } := (sb.2 _ (Nat.ne_of_gt hel)).trans hT
    have new : ObjOk X.prog X.w (upd H s.heap.objs.size (.tup [.int (i : Nat), x])) h3 s.heap.objs.size (.tup [.int (i : Nat), x]) :=
      ⟨(by show 2 ≤ sizeLine; decide), [.int i tk, y], .cons ⟨_, rfl⟩ (.cons ru .nil), ⟨_, hT2, rfl, _, rfl⟩⟩
    have I1 : Inv X pins σ (upd H s.heap.objs.size (.tup [.int (i : Nat), x])) { s with heap := h3, toks := tk + 1 } :=
      I.turnedNew (ch := [e, it]) (fun b ob hb q => (sb.2 b fun z => hb (by simp [z])).trans (hk b ob (fun z => hb (by simp [z])) (fun z => hb (by simp [z])) q)) hf (Nat.le_refl _) new
    refine ⟨.ref s.heap.objs.size, _, I1, rfl, ⟨_, x, rfl, I.hok.fresh (Nat.le_refl _), rfl, fun ys hy => by rw [I.tuple_inj hy hq]; exact hx⟩, ⟨⟨y, ?_⟩, hst2.1.at fun o q => (sb.2 it (Ne.symm hne)).trans q, hne⟩, fun b hb => ?_⟩
    · have e1 : ((i + 1 : Nat) : Int) = (i : Int) + 1 := by omega
      rw [e1]
      exact he3
    · have hb2 : b < s.heap.objs.size := by
        rcases (by simpa using hb : b = e ∨ b = it) with z | z
        · subst z; exact hel
        · subst z; exact hil
      rw [upd_ne (Nat.ne_of_lt hb2)]
      exact (hf b hb).1
  done := by
    intro X hP hw hK hc i pins s σ H E I hf st hg
    subst hP hw hK
    obtain ⟨⟨old, he⟩, hit, hne⟩ := st
    obtain ⟨xs, hq, hx⟩ := hg
    obtain ⟨its, rv, p, hz⟩ := I.tuple hq
    obtain ⟨f0, f1, f2, f3, f4, f5⟩ := hf it (by simp)
    have l2 := rv.length
    have hT : s.TypeIs (.ref e) "enumerate" := ⟨_, he, rfl⟩
    unfold pyNext
    refine wpAny_bind (wpAny_attempt (wpAny_callSpecial?_slot (name := Str.ofString "__next__") hT F.slot_enumerate_next
      (wpAny_call_entry F.slot_enumerate_next hT F.entry_enumerate_next ?_ (F.args_enumerate_next_1 _))))
    show wpAny _ _ (field (.ref e) 2 >>= _) _ _ _
    refine wpAny_bind (wpAny_field he rfl (x := .ref it) rfl ?_)
    refine wpAny_bind (wpAny_nextOf_tuple_end (I.ok.hd hc) hit (show s.heap.IsTuple a its.toArray from p) (by simp; omega) fun h2 x2 hk hx2 => ?_)
    obtain ⟨o, ho, hc2⟩ := hx2
    refine wpAny_bind (wpAny_isInstance (T := "StopIteration") (b := true) ⟨o, ho, hc2⟩ isSubtype_stop ?_)
    exact wpAny_pure ⟨rfl, I.turned (t' := s.toks) (fun b o hb q => hk b o hb q) f0 f1 f3 f4 f5⟩
  self := fun A i s Q E st h => by
    obtain ⟨⟨_, he⟩, _⟩ := st
    exact wpAny_pyIter_enum he h
def iEnumT (K : PySem.W.Frag) (ta : TA) : TI := fun σ H R => ta σ H fun vs H1 => ∃ a xs, vs = [.ref a] ∧ SqT K H1 a xs ∧ R (Itet K a) H1
theorem pi_enumT {X : Cx} {e : Expr} {ta : TA} {p pos tpos : Pos} {elts : List Expr} {kk : Nat} (hg : Gl X "enumerate") (hm : X.mg "enumerate" = none) (ha : PA X [e] ta) (hs : starEach [e] X.env = [(false, eval e X.env)] := by rfl) :
    PI X (.Tuple elts kk tpos) (.Call (.Name "enumerate" p) [e] [] pos) (iEnumT X.K ta) := by
  refine ⟨fun pins s σ H R I h => ?_⟩
  refine Call_ (ld_blt I hg hm boot_enumerate (PyProof.Rows.callWith_type1 (thn (ha.run pos pins s σ H _ I h) fun us s1 z => ?_) hs rfl))
  obtain ⟨vs, H1, I1, r1, a, xs, rfl, hq, q⟩ := z
  obtain ⟨u, rfl, ru⟩ := vals1 r1
  cases ru
  obtain ⟨its, rv, pt, hz⟩ := I1.tuple hq
  refine call_enum1 (show s1.heap.IsTuple a its.toArray from pt) fun h2 he hit hk => wpAny_pyIter_enum he ?_
  have I2 : Inv X pins σ H1 { s1 with heap := h2 } := I1.kept (t' := s1.toks) hk
  refine ⟨s1.heap.objs.size + 1, [s1.heap.objs.size + 1, s1.heap.objs.size], _, _, H1, rfl, I2, turn_enumT a (s1.heap.objs.size + 1) s1.heap.objs.size, ⟨⟨.none, he⟩, ⟨_, hit, rfl, rfl⟩, Nat.succ_ne_self _⟩, fun b hb => ?_, q⟩
  have hle : s1.heap.objs.size ≤ b := by
    rcases (by simpa using hb : b = s1.heap.objs.size + 1 ∨ b = s1.heap.objs.size) with z | z
    · rw [z]; exact Nat.le_add_right _ _
    · rw [z]; exact Nat.le_refl _
  exact I1.fpOk hle (I1.hok.fresh hle)
theorem walk_enumT {K : PySem.W.Frag} {a : Addr} {xs : List V} : Walk (Itet K a) xs.length (fun H => SqT K H a xs) (YPair (fun i => some (.int (i : Nat))) (fun i => xs[i]?)) := by
  refine ⟨fun i _ hi q => ⟨xs, xs[i], q, by simp [hi]⟩, fun _ q => ⟨xs, q, Nat.le_refl _⟩, fun i H v H2 _ q y => ?_⟩
  obtain ⟨T, x, h1, h2, h3, h4⟩ := y
  exact ⟨T, .int (i : Nat), x, h1, h2, h3, rfl, h4 xs q⟩
end KnE

set_option Elab.async false
set_option linter.all false
set_option maxRecDepth 100000
set_option maxHeartbeats 4000000
/-! dicts with tuple keys: setdefault, a dict comprehension -/
namespace KnD
open PySem PySem.Spec PyProof.Rows L2
section
variable {X : Cx} {pins : List (Addr × Obj)} {σ : L2.St} {H : Hp} {s : Shared} {d b : Addr} {kvs : List (List Key × V)} {k : List Key} {z : V} {r : Value} {A : Around} {E : Value → Shared → Prop}
theorem dt_put {P : Program} {w : World} {h2 : Heap} {xs : List (List Key × Addr × Value)} (hd : H d = some (.dT kvs)) (hb : H b = some (.tup (k.map kV))) (nz : (d == sysModules) = false) (len : kvs.length < sizeLine) (rel : KT H kvs xs) (rz : RelV z r)
    (n : h2.DictOfH (tupleKind (mixKind P w)) d (storedH xs k b r)) : ObjOk P w (upd H d (.dT (putK kvs k z))) h2 d (.dT (putK kvs k z)) := by
  obtain ⟨q, es, ep, hq, e1, e2, e3, _, e4⟩ := n
  have l2 : (putK kvs k z).length ≤ sizeLine := Nat.le_trans (length_putK kvs k z) len
  refine ⟨l2, nz, _, (rel.put k hb rz).keeps fun c ys ec => ?_, q, es, ep, hq, e1, e2, e3, e4⟩
  rw [upd_ne (ne_of ec hd (fun q => nomatch q))]
  exact ec
theorem set_def {Q : Value → Shared → Prop} (hu : A.units + 1 < cLine) (I : Inv X pins σ H s) (hd : H d = some (.dT kvs)) (hb : H b = some (.tup (k.map kV))) (len : kvs.length < sizeLine) (rz : RelV z r)
    (old : ∀ v, valV kvs k = some v → ∀ (u : Value) (s2 : Shared), Inv X pins σ H s2 → RelV v u → Q u s2)
    (new : valV kvs k = none → ∀ s2 : Shared, Inv X pins σ (upd H d (.dT (putK kvs k z))) s2 → Q r s2) :
    wpAny (model X.prog X.w) A (call (.builtin "dict.setdefault") [.ref d, .ref b, r]) Q E s := by
  obtain ⟨l1, nz, xs, rel, dd⟩ := dt_of I.hok hd
  have hz : xs.length ≤ sizeLine := by
    rw [← Paired.length rel]
    exact l1
  have rk := rel.val k
  refine call_setdefault_heap (hsz := hz) (tupleKind_room_in1 hu) (key_of I.hok hb) nz dd (fun p hp => ?_) fun hn h2 dd2 sb => ?_
  · rw [hp] at rk
    cases e0 : valV kvs k with
    | none =>
      rw [e0] at rk
      exact (show False from rk).elim
    | some v0 =>
      rw [e0] at rk
      exact old v0 e0 _ _ (I.tok _) rk
  · rw [hn] at rk
    cases e0 : valV kvs k with
    | some v0 =>
      rw [e0] at rk
      exact (show False from rk).elim
    | none =>
      have he : ∃ q, h2.get? d = some q := by
        obtain ⟨q, _, _, hq, _⟩ := id dd2
        exact ⟨q, hq⟩
      exact new e0 _ (d_write I (by rw [hd]; exact True.intro) sb he (dt_put hd hb nz len rel rz dd2))
theorem set_comp {Q : Unit → Shared → Prop} (hu : A.units + 1 < cLine) (I : Inv X pins σ H s) (hd : H d = some (.dT kvs)) (hb : H b = some (.tup (k.map kV))) (len : kvs.length < sizeLine) (rz : RelV z r)
    (fin : ∀ s2 : Shared, Inv X pins σ (upd H d (.dT (putK kvs k z))) s2 → Q () s2) : wpAny (model X.prog X.w) A (dictSet d (.ref b) r) Q E s := by
  obtain ⟨l1, nz, xs, rel, dd⟩ := dt_of I.hok hd
  have hz : xs.length ≤ sizeLine := by
    rw [← Paired.length rel]
    exact l1
  refine wpAny_dictSet_heap (hsz := hz) (show A.units < cLine from Nat.lt_of_succ_lt hu) (key_of I.hok hb) dd fun h2 dd2 sb => fin _ ?_
  have he : ∃ q, h2.get? d = some q := by
    obtain ⟨q, _, _, hq, _⟩ := id dd2
    exact ⟨q, hq⟩
  exact d_write I (by rw [hd]; exact True.intro) sb he (dt_put hd hb nz len rel rz dd2)
end
/-- d.setdefault((..), z) -/
def tSetT (td ty tx : TE) : TE := fun σ H Q => td σ H fun x H1 => ∃ d, x = .ref d ∧ IsD H1 d ∧ ty σ H1 fun y H2 => tx σ H2 fun z H3 => ∃ (kvs : List (List Key × V)) (k : List Key) (b : Addr), H3 d = some (.dT kvs) ∧ y = .ref b ∧ H3 b = some (.tup (k.map kV)) ∧ kvs.length < sizeLine ∧
  (∀ v, valV kvs k = some v → Q v H3) ∧ (valV kvs k = none → Q z (upd H3 d (.dT (putK kvs k z))))
section
variable {X : Cx} {o e f : Expr} {td ty tx : TE} {apos cpos : Pos}
theorem pe_setT (hu : X.A.units + 1 < cLine) (ho : PE X o td) (he : PE X e ty) (hf : PE X f tx) (m : M2 X o "setdefault" apos e f cpos) : PE X (.Call (.Attribute o "setdefault" apos) [e, f] [] cpos) (tSetT td ty tx) := by
  refine ⟨fun pins s σ H Q I h => wpAny_Call_method m.base m.few m.line PySem.F.plainAttrs_dict PySem.F.slot_dict_setdefault PySem.F.type_dict_setdefault (thn (ho.run pins s σ H _ I h) fun u s1 q0 => ?_)⟩
  obtain ⟨x, H1, I1, rx, d, rfl, isd, q1⟩ := q0
  obtain rfl : u = Value.ref d := rx
  obtain ⟨t1, t2, _⟩ := isD_at I1 isd
  refine ⟨t1, t2, ?_⟩
  rw [m.trees]
  refine Calls.callWith_builtin rfl (Calls.evalArgs_plain (Calls.spliced_cons (thn (he.run pins s1 σ H1 _ I1 q1) fun iv s2 q2 => ?_)))
  obtain ⟨y, H2, I2, ry, q2⟩ := q2
  refine Calls.spliced_cons (thn (hf.run pins s2 σ H2 _ I2 q2) fun fv s3 q3 => Calls.spliced_nil ?_)
  obtain ⟨z, H3, I3, rz, kvs, k, b, hd, rfl, hb, len, q4, q5⟩ := q3
  obtain rfl : iv = Value.ref b := ry
  exact set_def hu I3 hd hb len rz (fun v hv u s4 I4 rv => ⟨v, _, I4, rv, q4 v hv⟩) fun hn s4 I4 => ⟨z, _, I4, rz, q5 hn⟩
end
/-! ### {k: v for target in iter if ..}, the keys tuples -/
section
variable {X : Cx}
def tDcT (wi : TI) (g : TG) (tt : TT) (tk tv : TE) (vs : List Nat) : TE := fun σ H Q => wi σ H fun J H1 => ∀ D, H1 D = none → ∃ W : Nat → Nat → Hp → Prop, (∃ m, W 0 m (upd H1 D (.dT []))) ∧ ∀ i m H, W i m H →
  (J.stop i H ∧ Q (.ref D) H) ∨ (J.go i H ∧ ∃ Nx : Hp → Prop, (∀ H2, Nx H2 → ∃ m2, m2 < m ∧ W (i + 1) m2 H2) ∧ ∀ x H2, J.yld i H x H2 → g x (wipe σ vs) H2 fun σ3 H3 => wipe σ3 vs = wipe σ vs ∧ tt σ3 H3 fun b H4 =>
    if b = true then tk σ3 H4 fun y H5 => tv σ3 H5 fun z H6 => ∃ kvs k q, y = .ref q ∧ H6 q = some (.tup (k.map kV)) ∧ H6 D = some (.dT kvs) ∧ kvs.length < sizeLine ∧ Nx (upd H6 D (.dT (putK kvs k z))) else Nx H4)
theorem dct_core {pins : List (Addr × Obj)} {s : Shared} {σ : L2.St} {H : Hp} {Q : VK} {kx vx tg iter : Expr} {ifs : List Expr} {scope : Scope} {own : List (Str × Nat)} {pos pos2 : Pos} {wi : TI} {g : TG} {tt : TT} {tk tv : TE} {use : Option (Value → Sem Unit)} {Qf : Value → Shared → Prop}
    (hu : X.A.units + 1 < cLine) (calm : X.calm = true) (hN : X.N.Nodup) (I : Inv X pins σ H s) (hi : PI X tg iter wi) (ok : BlkOk X.N X.env.scope scope own)
    (hg : ∀ (s : Shared) (H : Hp) (C : Addr) (cl : List (Str × Addr)) (fp : List Addr), PG (X.blk s H scope (compEnvC scope cl C X.env) fp) tg g)
    (ht : ∀ (s : Shared) (H : Hp) (C : Addr) (cl : List (Str × Addr)) (fp : List Addr), PTs (X.blk s H scope (compEnvC scope cl C X.env) fp) ifs tt)
    (hk : ∀ (s : Shared) (H : Hp) (C : Addr) (cl : List (Str × Addr)) (fp : List Addr), PE (X.blk s H scope (compEnvC scope cl C X.env) fp) kx tk)
    (he : ∀ (s : Shared) (H : Hp) (C : Addr) (cl : List (Str × Addr)) (fp : List Addr), PE (X.blk s H scope (compEnvC scope cl C X.env) fp) vx tv) (hs : ∀ x, foldedSetIterable iter X.env x = pure x)
    (h : tDcT wi g tt tk tv (own.map (·.2)) σ H Q)
    (out : ∀ D C s2 m H2, Inv X pins σ H2 s2 → Q (.ref D) H2 → s2.heap.Ns C m → FpOk X pins H2 C → compPost (model X.prog X.w) X.A X.xe use Qf (.ref D) C (.ok .next) s2) :
    wpAny (model X.prog X.w) X.A (comprehension (.DictComp kx vx [⟨tg, iter, ifs, 0⟩] scope pos) scope X.env pos2 newDict false (eval iter X.env) use) Qf X.xe s := by
  have caught : ∀ y ∈ scope.names, y.2 = .free → ∃ c, X.env.cells.lookup y.1 = some c := fun y hy e => (ok.free y hy e).elim (fun q => I.ok.has _ (Or.inl q)) fun q => I.ok.has _ (Or.inr q)
  refine wpAny_comprehension_free (use := use) rfl hs (closure_ok caught) ok.kind (fun y hy e => by rw [ok.uniq y hy, e]) (thn (hi.run pins s σ H _ I h) fun xv s1 hx => thn hx fun itv s2 q2 => ?_)
  obtain ⟨it, fp, tn, J, H2, rfl, I2, T, st2, f2, q⟩ := q2
  refine wpAny_newObj_type (newEnv_comp ?_)
  generalize hD : s2.heap.objs.size = D
  have freeD : H2 D = none := I2.hok.fresh (Nat.le_of_eq hD)
  obtain ⟨W, ⟨m0, w0⟩, turn⟩ := q D freeD
  generalize hs3 : ({ s2 with heap := s2.heap.push { cls := .type "dict", data := .dict #[] } } : Shared) = s3
  have I3 : Inv X pins σ (upd H2 D (.dT [])) s3 := by
    subst hs3
    subst hD
    exact I2.laid (t' := s2.toks) (fun b o e => Heap.get?_push_of_some _ e) (Nat.le_refl _) (dt_empty s2.heap I2.big)
  have heap3 : s3.heap = s2.heap.push { cls := .type "dict", data := .dict #[] } := by rw [← hs3]
  have below : ∀ b ∈ fp, b < s2.heap.objs.size := fun b hb => by
    obtain ⟨o, e, _⟩ := T.obj _ _ st2 b hb
    exact Heap.lt_size e
  have f3 : ∀ b ∈ fp, FpOk X pins (upd H2 D (.dT [])) b ∧ b < s3.heap.objs.size := fun b hb => by
    have lt := below b hb
    have ne : b ≠ D := by rw [← hD]; exact Nat.ne_of_lt lt
    exact ⟨⟨(upd_ne ne).trans (f2 b hb).1, (f2 b hb).2⟩, by rw [heap3, Heap.size_push]; exact Nat.lt_succ_of_lt lt⟩
  have st3 : tn 0 s3.heap := T.keep _ _ _ st2 fun b _ o e => by rw [heap3]; exact Heap.get?_push_of_some _ e
  have I4 := block_start I3 ok hN f3
  generalize hcl : cellsFrom (s3.heap.objs.size + 1) scope.names (cloFrom X.env.cells scope.names []) = cl at I4
  have pg := hg s3 (upd H2 D (.dT [])) s3.heap.objs.size cl fp
  have pt := ht s3 (upd H2 D (.dT [])) s3.heap.objs.size cl fp
  have pk := hk s3 (upd H2 D (.dT [])) s3.heap.objs.size cl fp
  have pe := he s3 (upd H2 D (.dT [])) s3.heap.objs.size cl fp
  show codeAny _ _ (.compStart (.DictComp kx vx [⟨tg, iter, ifs, 0⟩] scope pos) 0 (.ref it) (.ref D) (compEnvC scope cl s3.heap.objs.size X.env)) (compPost (model X.prog X.w) X.A X.xe use Qf (.ref D) s3.heap.objs.size) { s3 with heap := pushCells (s3.heap.push { cls := .type "dict", data := .dict #[] }) scope.names }
  have nfp : ∀ b ∈ fp, (upd H2 D (.dT [])) b = none := fun b hb => (f3 b hb).1.1
  generalize hce : compEnvC scope cl s3.heap.objs.size X.env = ce at I4 pg pt pk pe ⊢
  have loc : ce.locals = s3.heap.objs.size := by subst hce; rfl
  generalize hH3 : upd H2 D (.dT []) = H3 at I3 I4 pg pt pk pe w0 nfp f3
  generalize hs4 : ({ s3 with heap := pushCells (s3.heap.push { cls := .type "dict", data := .dict #[] }) scope.names } : Shared) = s4 at I4 ⊢
  have st4 : tn 0 s4.heap := T.keep _ _ _ st3 fun b _ o e => by rw [← hs4]; exact pushCells_keeps _ _ _ _ (Heap.get?_push_of_some _ e)
  have fpk : ∀ {σ1 : L2.St} {H1 : Hp} {s1 : Shared}, Inv (X.blk s3 H3 scope ce fp) [] σ1 H1 s1 → (∀ b ∈ fp, H1 b = none) → ∀ b ∈ fp, FpOk (X.blk s3 H3 scope ce fp) [] H1 b := fun {σ1 H1 s1} J n b hb =>
    ⟨n b hb, (J.ok.exf b hb).1, J.ok.exfs b hb, Or.inl hb, fun x c e => (J.ok.exf b hb).2 x c e, fun p hp => absurd (show p ∈ ([] : List (Addr × Obj)) ++ [] from hp) (by simp)⟩
  have loop : codeAny (model X.prog X.w) X.A (.compLoop (.DictComp kx vx [⟨tg, iter, ifs, 0⟩] scope pos) 0 (.ref it) (.ref D) ce) (compPost (model X.prog X.w) X.A X.xe use Qf (.ref D) s3.heap.objs.size) s4 := by
    refine compLoop_anyD (fun n s1 => ∃ i H1, Inv (X.blk s3 H3 scope ce fp) [] (wipe σ (own.map (·.2))) H1 s1 ∧ tn i s1.heap ∧ (∀ b ∈ fp, H1 b = none) ∧ W i n H1) ?_ m0 ⟨0, H3, I4, st4, nfp, w0⟩
    rintro n s5 ⟨i, H5, I5, st5, n5, w5⟩
    rcases turn i n H5 w5 with ⟨stop, done⟩ | ⟨go, Nx, hNx, step⟩
    · refine thnF (T.done (X.blk s3 H3 scope ce fp) rfl rfl rfl calm i [] s5 _ H5 (fun _ _ => False) I5 (fpk I5 n5) st5 stop) fun r s6 q6 => ?_
      obtain ⟨rfl, I6⟩ := q6
      have I7 : Inv X pins σ H5 s6 := I3.call' (ch := fp) I6.os I6.base I6.hok I6.bare fun b hb => ⟨(f3 b hb).1.2.2.2.1, (f3 b hb).1.2.1, (f3 b hb).1.2.2.2.2.1, (f3 b hb).1.2.2.2.2.2⟩
      have nC : H5 s3.heap.objs.size = none := by
        rw [← loc]
        exact I6.free
      obtain ⟨m, ns, _⟩ := I6.loc
      have ns : s6.heap.Ns ce.locals m := ns
      rw [loc] at ns
      exact out D s3.heap.objs.size s6 m H5 I7 done ns (I3.fpOk (Nat.le_refl _) nC)
    · refine thnF (T.item (X.blk s3 H3 scope ce fp) rfl rfl rfl calm i [] s5 _ H5 (fun _ _ => False) I5 (fpk I5 n5) st5 go) fun r s6 q6 => ?_
      obtain ⟨u, rfl, q6⟩ := q6
      refine thnF q6 fun _ s7 q7 => ?_
      obtain ⟨x, H7, I7, r7, y7, st7, n7⟩ := q7
      have J7 := I7.pinned (fpk I7 n7) (T.obj _ _ st7)
      refine thnF (pg.run _ s7 _ H7 x u _ J7 r7 (step x H7 y7)) fun _ s8 q8 => ?_
      obtain ⟨σ8, H8, I8, same, q8⟩ := q8
      refine thnF (pt.run _ s8 σ8 H8 _ I8 q8) fun b s9 q9 => ?_
      obtain ⟨H9, I9, q9⟩ := q9
      have fin : ∀ {s1 : Shared} {H1 : Hp}, Inv (X.blk s3 H3 scope ce fp) ([] ++ pinsAt fp s7.heap) σ8 H1 s1 → Nx H1 → ∃ m, m < n ∧ ∃ i H1, Inv (X.blk s3 H3 scope ce fp) [] (wipe σ (own.map (·.2))) H1 s1 ∧ tn i s1.heap ∧ (∀ b ∈ fp, H1 b = none) ∧ W i m H1 := fun {s1 H1} J nx => by
        obtain ⟨m2, lt, w2⟩ := hNx H1 nx
        have pin2 : ∀ b ∈ fp, ∀ o, s7.heap.get? b = some o → s1.heap.get? b = some o ∧ H1 b = none := fun b hb o e => by
          have z := J.pin (b, o) (List.mem_append_right _ (List.mem_append_right _ (mem_pinsAt hb e)))
          exact ⟨z.1, z.2.1⟩
        have hl : (wipe σ (own.map (·.2))).length = σ8.length := by rw [← same, wipe_length]
        refine ⟨m2, lt, i + 1, H1, (J.unpinned (pins := [])).weak hl (fun j v e => ?_), T.keep _ _ _ st7 fun b hb o e => (pin2 b hb o e).1, fun b hb => ?_, w2⟩
        · rw [← same] at e
          exact (wipe_some e).1
        · obtain ⟨o, e, _⟩ := T.obj _ _ st7 b hb
          exact (pin2 b hb o e).2
      cases b with
      | false =>
        simp only [Bool.false_eq_true, if_false] at q9 ⊢
        exact fin I9 q9
      | true =>
        simp only [if_true] at q9 ⊢
        refine thnF (pk.run _ s9 σ8 H9 _ I9 q9) fun z s10 qA => ?_
        obtain ⟨yk, H10, I10, r10, q10⟩ := qA
        refine thnF (pe.run _ s10 σ8 H10 _ I10 q10) fun z2 s11 qB => ?_
        obtain ⟨yv, H11, I11, r11, kvs, k, kb, rfl, hkb, hD11, hz11, nx⟩ := qB
        obtain rfl : z = Value.ref kb := r10
        exact set_comp (X := X.blk s3 H3 scope ce fp) hu I11 hD11 hkb hz11 r11 fun s12 I12 => fin I12 nx
  exact codeAny_compStart_dict loop (T.self X.A 0 _ _ _ st4 loop)
theorem pe_dcT {kx vx tg iter : Expr} {ifs : List Expr} {scope : Scope} {own : List (Str × Nat)} {pos : Pos} {wi : TI} {g : TG} {tt : TT} {tk tv : TE} (hu : X.A.units + 1 < cLine) (calm : X.calm = true) (hN : X.N.Nodup) (hi : PI X tg iter wi) (ok : BlkOk X.N X.env.scope scope own)
    (hg : ∀ (s : Shared) (H : Hp) (C : Addr) (cl : List (Str × Addr)) (fp : List Addr), PG (X.blk s H scope (compEnvC scope cl C X.env) fp) tg g)
    (ht : ∀ (s : Shared) (H : Hp) (C : Addr) (cl : List (Str × Addr)) (fp : List Addr), PTs (X.blk s H scope (compEnvC scope cl C X.env) fp) ifs tt)
    (hk : ∀ (s : Shared) (H : Hp) (C : Addr) (cl : List (Str × Addr)) (fp : List Addr), PE (X.blk s H scope (compEnvC scope cl C X.env) fp) kx tk)
    (he : ∀ (s : Shared) (H : Hp) (C : Addr) (cl : List (Str × Addr)) (fp : List Addr), PE (X.blk s H scope (compEnvC scope cl C X.env) fp) vx tv) (hs : ∀ x, foldedSetIterable iter X.env x = pure x := by intro _; rfl) :
    PE X (.DictComp kx vx [⟨tg, iter, ifs, 0⟩] scope pos) (tDcT wi g tt tk tv (own.map (·.2))) := by
  refine ⟨fun pins s σ H Q I h => ?_⟩
  rw [arm_eval_DictComp]
  refine dct_core hu calm hN I hi ok hg ht hk he hs h fun D C s2 m H2 J q ns f => ⟨m, ns, fun h3 sb => ?_⟩
  obtain ⟨f0, f1, f2, f3, f4, f5⟩ := f
  exact ⟨.ref D, H2, J.turned (t' := s2.toks) (fun b o hb e => (sb.2 b hb).trans e) f0 f1 f3 f4 f5, rfl, q⟩
end
end KnD

set_option Elab.async false
set_option linter.all false
set_option maxRecDepth 100000
set_option maxHeartbeats 4000000
/-! repr of data; slices of tuples, the whole too -/
namespace KnM
open PySem PySem.Spec PyProof.Rows L2
section
variable {X : Cx}
/-- what repr asks of a datum -/
structure Showy (d : PyData) : Prop where
  nd : d.hasDict = false
  sh : d.showable = true
  dp : d.depth ≤ 60
  sz : d.shown.length ≤ sizeLine
def rRepr (K : PySem.W.Frag) : List V → Hp → VK → Prop := fun xs H Q => ∃ v d, xs = [v] ∧ Dp K H v d ∧ Showy d ∧ Q (.str d.shown) H
theorem call_repr (hg : X.A.guards = some []) (hu : X.A.units + 64 < cLine) : CallR X (.builtin "repr") (rRepr X.K) := by
  intro pins s σ H xs us Q I r h
  obtain ⟨v, d, rfl, hd, y, q⟩ := h
  obtain ⟨u, rfl, ru⟩ := vals1 r
  have fin : ∀ (z : Str), z = d.shown → ∀ (t tk : Tok), EP X pins σ Q (.str z t) { s with toks := tk } := fun z e t tk => by
    subst e
    exact ⟨.str _, H, I.tok _, ⟨_, rfl⟩, q⟩
  obtain ⟨as, rd⟩ := Dp.reads I d v u hd ru
  have big : ∀ a : Addr, u = Value.ref a → wpAny (model X.prog X.w) X.A (call (.builtin "repr") [u]) (EP X pins σ Q) X.xe s := fun a e => by
    subst e
    refine repr_of_reads' (h₀ := s.heap) rd y.sh (PyData.noDict_hsm y.nd) hg (by have := y.dp; omega) (fun _ _ z => z) (fun h2 t tk hk => ?_) y.sz
    exact ⟨.str _, H, I.kept hk, ⟨_, rfl⟩, q⟩
  cases hd with
  | non =>
    cases ru
    exact PySem.P.repr_of_none (fin _ (by simp [PyData.shown]) _ _)
  | bl b =>
    cases ru
    exact PySem.P.repr_of_bool (fin _ (by cases b <;> simp [PyData.shown]) _ _)
  | int i =>
    obtain ⟨t, rfl⟩ := ru
    exact PySem.P.repr_of_int (by simpa [PyData.showable] using y.sh) (fin _ (by simp [PyData.shown]) _ _)
  | str x =>
    obtain ⟨t, rfl⟩ := ru
    exact PySem.P.repr_of_str (hsz := by simpa [PyData.shown] using y.sz) (fin _ (by simp [PyData.shown]) _ _)
  | lst => exact big _ ru
  | tup => exact big _ ru
/-! ### t[:j] of a tuple -/
def rSlU (K : PySem.W.Frag) : V → Option Int → Option Int → Hp → VK → Prop := fun x lo hi H Q => ∃ a xs, x = .ref a ∧ SqT K H a xs ∧
  ((cutV xs lo hi = xs ∧ Q (.ref a) H) ∨ (∀ p, H p = none → Q (.ref p) (upd H p (.tup (cutV xs lo hi)))))
end
end KnM

set_option Elab.async false
set_option linter.all false
set_option maxRecDepth 100000
set_option maxHeartbeats 4000000
/-! Lambdas with parameters that capture one name of the def that makes them, and are called when that def is gone. -/
namespace Kn
open PySem PySem.Spec PyProof.Rows L2
/-! ### the class of a function -/
theorem slot_ga : Slot "function" "__getattribute__" "object.__getattribute__" :=
  .of (owner := "object") (n := "__getattribute__") (by rw [typeLookup_type, builtinLookup_eq_fast]; kernel_rfl) (by decide +kernel) (by decide +kernel) (by decide +kernel)
    (by first | exact .inl (by decide +kernel) | exact .inr (by decide +kernel)) (by rw [isSubtype_type]; kernel_rfl)
theorem lk_class : typeLookup (.type "function") "__class__" = pure (some (.builtin "object.__class__")) := by rw [typeLookup_type, builtinLookup_eq_fast]; kernel_rfl
theorem sub_owner : isSubtype (.type "function") (.type (".".intercalate ("object.__class__".cutAt '.').dropLast)) = pure true := by
  rw [F.owner_object_class, isSubtype_type]; kernel_rfl
section
variable {prog : Program} {w : World} {A : Around} {E : Value → Shared → Prop} {h : Heap} {g : Array GenState} {d : Drawn} {t : Nat} {os : OsState} {a : Addr} {o : Obj}
theorem fn_get {R : Result → Shared → Prop} (hx : h.get? a = some o) (hc : o.cls = .type "function") (hq : R (.ok (.ret (.type "function"))) ⟨h, g, d, t, os⟩) :
    codeAny (model prog w) A (.call (.builtin "getset_descriptor.__get__") ⟨[.builtin "object.__class__", .ref a, .type "function"], []⟩) R ⟨h, g, d, t, os⟩ := by
  have t1 : (⟨h, g, d, t, os⟩ : Shared).TypeIs (.ref a) "function" := ⟨_, hx, hc⟩
  have t2 : (⟨h, g, d, t, os⟩ : Shared).TypeIs (.builtin "object.__class__") "getset_descriptor" := F.typeOf_object_class
  have t3 := sub_owner
  refine codeAny_call_builtin F.slot_gs_get.plain F.entry_gs_get (F.slot_gs_get.check _ _ _ _ _ _ _ _ t2 (F.args_gs_get _ _ _) ?_)
  repeat (any_goals (first | assumption | wp_step))
  refine ⟨Code.quiet_builtin _ (by decide +kernel), codeAny_builtin F.entry_object_class ?_⟩
  repeat (any_goals (first | assumption | wp_step))
theorem fn_entry {tk : Tok} {Q : Fin → Shared → Prop} (hx : h.get? a = some o) (hc : o.cls = .type "function") (hq : Q (.done (.ret (.type "function"))) ⟨h, g, d, t, os⟩) :
    wpAny (model prog w) A (Builtin.«object.__getattribute__» ⟨[.ref a, .str "__class__" tk], []⟩) Q E ⟨h, g, d, t, os⟩ := by
  have t1 : (⟨h, g, d, t, os⟩ : Shared).TypeIs (.ref a) "function" := ⟨_, hx, hc⟩
  have t2 : (⟨h, g, d, t, os⟩ : Shared).TypeIs (.builtin "object.__class__") "getset_descriptor" := F.typeOf_object_class
  have t4 := lk_class
  have t5 := F.typeOf_object_class
  have t6 := F.slot_gs_get.lookup
  have t7 := F.slot_gs_set.lookup
  repeat (any_goals (first | assumption | wp_step))
  refine fn_get hx hc ?_
  repeat (any_goals (first | assumption | wp_step))
theorem fn_call {tk : Tok} {R : Result → Shared → Prop} (hx : h.get? a = some o) (hc : o.cls = .type "function") (hq : R (.ok (.ret (.type "function"))) ⟨h, g, d, t, os⟩) :
    codeAny (model prog w) A (.call (.builtin "object.__getattribute__") ⟨[.ref a, .str "__class__" tk], []⟩) R ⟨h, g, d, t, os⟩ :=
  codeAny_call_builtin slot_ga.plain F.entry_object_getattribute (slot_ga.check _ _ _ _ _ _ _ _ (show (⟨h, g, d, t, os⟩ : Shared).TypeIs (.ref a) "function" from ⟨_, hx, hc⟩) (F.args_object_getattribute_2 _ _) (fn_entry hx hc hq))
theorem fn_by {tk : Tok} {Q : Value → Shared → Prop} (hx : h.get? a = some o) (hc : o.cls = .type "function") (hq : Q (.type "function") ⟨h, g, d, t, os⟩) : wpAny (model prog w) A (getAttrBy (.ref a) (.str "__class__" tk) false) Q E ⟨h, g, d, t, os⟩ := by
  have t1 : (⟨h, g, d, t, os⟩ : Shared).TypeIs (.ref a) "function" := ⟨_, hx, hc⟩
  have t2 := slot_ga.lookup
  have t3 := slot_ga.bind (.ref a)
  repeat (any_goals (first | assumption | wp_step))
  refine fn_call hx hc ?_
  repeat (any_goals (first | assumption | wp_step))
theorem fn_attr {Q : Option Value → Shared → Prop} (hx : h.get? a = some o) (hc : o.cls = .type "function") (hq : Q (some (.type "function")) ⟨h, g, d, t + 1, os⟩) : wpAny (model prog w) A (getAttr? (.ref a) "__class__") Q E ⟨h, g, d, t, os⟩ := by
  unfold getAttr? getAttrBy?
  repeat (any_goals (first | assumption | with_reducible apply fn_by hx hc | wp_step))
end
theorem kit_fn {K : PySem.W.Frag} {a : Addr} : PySem.W.KitX K (.ref a) (.type "function") (PySem.W.KitAt a "function") :=
  PySem.W.kitx_of PySem.W.kitAt_ty (fun {_ _ _ _ _ s} p k => by obtain ⟨h, g, d, t, os⟩ := s; obtain ⟨o, h1, h2⟩ := p; exact fn_attr h1 h2 k)
/-! ### what a lambda is -/
structure LD where
  params : Arguments
  body : Expr
  scope : Scope
/-- the object at f is the lambda L, its code object at c2, its one cell at c under the name y -/
def LamO (f : Addr) (L : LD) (q : Str) (y : Str) (c c2 : Addr) : HO := .ext fun h => ∃ pm ctv : Value, h.get? f = some (PySem.W.kla_obj "<lambda>" q L.params L.body L.scope [(y, c)] pm c2 ctv)
/-- the cell at c holds the object at a -/
def CellO (c a : Addr) : HO := .ext fun h => h.IsCell c (some (.ref a))
theorem cellO_ok {P : Program} {w : World} {H : Hp} {h : Heap} {c a : Addr} (k : h.IsCell c (some (.ref a))) : ObjOk P w H h c (CellO c a) := by
  obtain ⟨o, e, d⟩ := id k
  exact ⟨k, ⟨o, e⟩, fun h1 h2 ⟨o1, e1, d1⟩ st => ⟨o1, st _ e1, d1⟩⟩
theorem lamO_ok {P : Program} {w : World} {H : Hp} {h : Heap} {f : Addr} {L : LD} {q y : Str} {c c2 : Addr} {pm ctv : Value} (k : h.get? f = some (PySem.W.kla_obj "<lambda>" q L.params L.body L.scope [(y, c)] pm c2 ctv)) : ObjOk P w H h f (LamO f L q y c c2) :=
  ⟨⟨pm, ctv, k⟩, ⟨_, k⟩, fun h1 h2 ⟨pm1, ct1, e1⟩ st => ⟨pm1, ct1, st _ e1⟩⟩
theorem lamO_at {P : Program} {w : World} {H : Hp} {h : Heap} {f : Addr} {L : LD} {q y : Str} {c c2 : Addr} (ok : HOk P w H h) (e : H f = some (LamO f L q y c c2)) : ∃ pm ctv : Value, h.get? f = some (PySem.W.kla_obj "<lambda>" q L.params L.body L.scope [(y, c)] pm c2 ctv) := (ok f _ e).1
theorem cellO_at {P : Program} {w : World} {H : Hp} {h : Heap} {c a : Addr} (ok : HOk P w H h) (e : H c = some (CellO c a)) : h.IsCell c (some (.ref a)) := (ok c _ e).1
/-- isinstance(f, (..)), f such a lambda -/
def rIsF (K : PySem.W.Frag) : List V → Hp → VK → Prop := fun xs H Q => ∃ (f tp : Addr) (L : LD) (q y : Str) (c c2 : Addr) (cs : List V) (us : List Value) (b : Bool), xs = [.ref f, .ref tp] ∧ H f = some (LamO f L q y c c2) ∧ H tp = some (.tup cs) ∧ Paired ClsV cs us ∧
  PySem.W.kitAny K (.type "function") us = some b ∧ Q (.bl b) H
theorem call_isF {X : Cx} : CallR X (.builtin "isinstance") (rIsF X.K) := by
  intro pins s σ H xs us Q I r h
  obtain ⟨f, tp, L, qn, y, c, c2, cs, ws, b, rfl, hf, hT, k, e, q⟩ := h
  obtain ⟨u1, u2, rfl, r1, r2⟩ := vals2 r
  cases (show u1 = Value.ref f from r1)
  cases (show u2 = Value.ref tp from r2)
  obtain ⟨pm, ctv, ef⟩ := lamO_at I.hok hf
  obtain ⟨_, its, rv, o, h1, h2, n, h3⟩ := (show ObjOk X.prog X.w H s.heap tp (.tup cs) from I.hok tp _ hT)
  have e3 := ClsV.all k rv
  subst e3
  obtain ⟨oc, od, dt, sl⟩ := o
  simp only at h2 h3
  subst h2 h3
  exact PySem.W.kia_tup kit_fn I.kIn ⟨_, ef, rfl⟩ h1 e (fun z => nomatch z) fun tk => ⟨.bl b, H, I.tok tk, rfl, q⟩
/-! ### a heap without one object -/
def hide (H : Hp) (c : Addr) : Hp := fun b => if b = c then none else H b
theorem hide_same {H : Hp} {c : Addr} : hide H c c = none := by unfold hide; rw [if_pos rfl]
theorem hide_ne {H : Hp} {c b : Addr} (h : b ≠ c) : hide H c b = H b := by unfold hide; rw [if_neg h]
theorem hide_none {H : Hp} {c b : Addr} (h : H b = none) : hide H c b = none := by unfold hide; split <;> first | rfl | exact h
section
variable {P : Program} {w : World} {K : PySem.W.Frag} {mg : Str → Option Value} {base : Heap} {A : Around} {outer : List Env} {s s2 : Shared} {H : Hp} {c a : Addr}
theorem env0_hide (e : Env0 P w K mg base A outer s H) (hc : H c = some (CellO c a)) : Env0 P w K mg base A outer s (hide H c) := by
  refine ⟨e.frames, e.mod, fun b o q => ⟨(e.bs b o q).1, hide_none (e.bs b o q).2⟩, e.bsz, e.funs, fun b hb => hide_none (e.frf b hb), fun b o q => ?_, e.bare⟩
  have nb : b ≠ c := fun z => by rw [z, hide_same] at q; cases q
  rw [hide_ne nb] at q
  have nc : ∀ d u, H d = some u → (u ≠ CellO c a) → d ≠ c := fun d u e1 n z => by rw [z, hc] at e1; exact n (Option.some.inj e1).symm
  exact (e.hok b o q).stay (fun _ _ _ z => z) (fun d z => (hide_ne (nc d _ z fun x => by cases x)).trans z) fun d xs z => (hide_ne (nc d _ z fun x => by cases x)).trans z
theorem ce_show {Q : VK} {u : Value} (e : Env0 P w K mg base A outer s H) (hc : H c = some (CellO c a)) (h : CE outer P w (hide H c) s (fun v H2 => Q v (upd H2 c (CellO c a))) u s2) : CE outer P w H s Q u s2 := by
  obtain ⟨v, H2, os, bare, un, hok, rv, q⟩ := h
  obtain ⟨o, ho, hd⟩ := cellO_at e.hok hc
  have nf : c ∉ frs outer := fun z => by have := e.frf c z; rw [hc] at this; cases this
  have c0 : hide H c c = none := hide_same
  have c2 : H2 c = none := un.free c o ho c0 (by simp)
  have k2 : s2.heap.get? c = some o := un.keep c o ho c0 nf (by simp)
  have nn : ∀ b, H b = none → b ≠ c := fun b n z => by rw [z, hc] at n; cases n
  have ns : ∀ b u, H b = some u → (u ≠ CellO c a) → b ≠ c := fun d u e1 n z => by rw [z, hc] at e1; exact n (Option.some.inj e1).symm
  refine ⟨v, upd H2 c (CellO c a), os, bare, ⟨fun b o e1 n hb hx => un.keep b o e1 (hide_none n) hb hx, fun b o e1 n hb hx => un.slot b o e1 (hide_none n) hb hx, fun b o e1 n hx => (upd_ne (nn b n)).trans (un.free b o e1 (hide_none n) hx), un.there, fun b xs n => ?_, fun b o u n => ?_, fun b ps n => ?_⟩, fun b u e1 => ?_, rv, q⟩
  · have nb := ns b _ n fun x => by cases x
    exact (upd_ne nb).trans (un.tups b xs ((hide_ne nb).trans n))
  · have nb := ns b _ n fun x => by cases x
    exact (upd_ne nb).trans (un.frzs b o u ((hide_ne nb).trans n))
  · have nb := ns b _ n fun x => by cases x
    obtain ⟨more, z⟩ := un.tbls b ps ((hide_ne nb).trans n)
    exact ⟨more, (upd_ne nb).trans z⟩
  · by_cases hb : b = c
    · subst hb
      rw [upd_same] at e1
      cases e1
      exact cellO_ok ⟨o, k2, hd⟩
    · rw [upd_ne hb] at e1
      exact (hok b u e1).stay (fun _ _ _ z => z) (fun d z => (upd_ne (ne_of_none z c2)).trans z) fun d xs z => (upd_ne (ne_of_none z c2)).trans z
end
/-! ### a lambda runs -/
structure LamSc (sc : Scope) (ps : List Str) (y : Str) : Prop where
  kind : sc.kind = .function
  co : sc.isCoroutine = false
  gen : sc.isGenerator = false
  nd : (ps ++ [y]).Nodup
  par : ∀ x ∈ ps, sc.names.lookup x = some .local
  own : ∀ z ∈ sc.names, z.2 ≠ .cell
  cap : sc.names.lookup y = some .free
  one : ∀ z ∈ sc.names, z.2 = .free → z.1 = y
theorem lookup_binds {x : Str} {v : Value} : ∀ {ps : List Str} {us : List Value} {i : Nat}, ps.Nodup → ps[i]? = some x → us[i]? = some v → (ps.zip us).reverse.lookup x = some v
  | [], _, _, _, h, _ => by simp at h
  | _ :: _, [], _, _, _, h => by simp at h
  | p :: ps, u :: us, 0, nd, h1, h2 => by
    simp at h1 h2
    subst h1 h2
    have none_ : ∀ l : List Value, (ps.zip l).reverse.lookup p = none := fun l => by
      refine List.lookup_eq_none_iff.mpr fun z hz => ?_
      have := (List.of_mem_zip (show (z.1, z.2) ∈ ps.zip l from List.mem_reverse.mp hz)).1
      exact bne_iff_ne.mpr fun e : p = z.1 => (List.nodup_cons.mp nd).1 (by rw [e]; exact this)
    rw [List.zip_cons_cons, List.reverse_cons, List.lookup_append, none_]
    simp
  | p :: ps, u :: us, i + 1, nd, h1, h2 => by
    have ih := lookup_binds (i := i) (List.nodup_cons.mp nd).2 (by simpa using h1) (by simpa using h2)
    rw [List.zip_cons_cons, List.reverse_cons, List.lookup_append, ih]
    rfl
abbrev lamE (q : Str) (sc : Scope) (l f c2 : Addr) (y : Str) (c : Addr) : Env := PySem.W.envX q sc l f (.ref c2) [(y, c)]
abbrev cxL (W : Wd) (q : Str) (sc : Scope) (ps : List Str) (y : Str) (f c c2 : Addr) (A : Around) (outer : List Env) (s : Shared) (H : Hp) : Cx where
  prog := W.P
  w := W.w
  K := W.K
  mg := W.mg
  base := W.base
  A := A.deeper (lamE q sc s.heap.objs.size f c2 y c)
  N := ps ++ [y]
  s_0 := s
  H_0 := H
  env := lamE q sc s.heap.objs.size f c2 y c
  outer := outer
  stack := lamE q sc s.heap.objs.size f c2 y c :: outer
  ex := []
  fn := fun _ => false
  calm := true
  pn := []
  xe := fun _ _ => False
theorem lam_run {W : Wd} {k : Nat} {A : Around} {outer : List Env} {s : Shared} {H : Hp} {f c c2 sh : Addr} {L : LD} {q y : Str} {ps : List Str} {us : List Value} {vs : List V} {Q : VK} {t : TE}
    (rm : Room (k + 1) A) (e : Env0 W.P W.w W.K W.mg W.base A outer s H) (S : LamSc L.scope ps y) (hf : H f = some (LamO f L q y c c2)) (hc2 : H c2 = some (LamX.CodeO c2 q)) (hc : H c = some (CellO c sh))
    (rel : Vals vs us) (hl : vs.length = ps.length) (hb : ∀ pm ctv : Value, bindArgs (PySem.W.kla_fn "<lambda>" q L.params L.body L.scope [(y, c)] pm (.ref c2) ctv) ⟨us, []⟩ = pure (ps.zip us))
    (body : ∀ A2 : Around, Room k A2 → A2.guards = A.guards → A2 = A.deeper (lamE q L.scope s.heap.objs.size f c2 y c) → PE (cxL W q L.scope ps y f c c2 A outer s (hide H c)) L.body t)
    (want : t ((vs ++ [V.ref sh]).map some) (hide H c) (fun v H2 => H2 c = none → Q v (upd H2 c (CellO c sh)))) :
    codeAny (model W.P W.w) A (.call (.ref f) ⟨us, []⟩) (CR CX0 outer W.P W.w H s Q E0) s := by
  obtain ⟨pm, ctv, of⟩ := lamO_at e.hok hf
  obtain ⟨⟨oc, cvs, ct, o1, o2, o3⟩, _, _⟩ := e.hok c2 _ hc2
  have nolim : s.heap.NoLimit := e.mod.nolimit.keeps fun b o z => (e.bs b o z).1
  have e2 := env0_hide e hc
  have cell := cellO_at e.hok hc
  refine PySem.W.kla_callFunE rm.depth of rfl S.co S.gen rfl ⟨c2, oc, cvs, ct, rfl, o1, o2, o3⟩ ?_
  rw [hb]
  refine wpAny_pure (wpAny_newFunctionEnv S.own (fun z hz => ?_) (fun h1 hns hsb => ⟨nolim.fresh _ hsb, ?_⟩) S.kind)
  · exact S.par _ (List.of_mem_zip (show (z.1, z.2) ∈ ps.zip us from hz)).1
  have kp : ∀ b o, s.heap.get? b = some o → h1.get? b = some o := fun b o z => hsb.extBut b o (Nat.ne_of_lt (Heap.lt_size z)) (Heap.get?_push_of_some _ z)
  show codeAny _ _ (.expr L.body (lamE q L.scope s.heap.objs.size f c2 y c)) _ _
  have noA : ∀ b : Addr, b ∉ ([] : List Addr) := fun b z => by simp at z
  have cl : ∀ x d, ([(y, c)] : List (Str × Addr)).lookup x = some d → x = y ∧ d = c := fun x d z => by
    rw [List.lookup_cons] at z
    cases q0 : x == y with
    | true => rw [q0] at z; exact ⟨beq_iff_eq.mp q0, (Option.some.inj z).symm⟩
    | false => rw [q0] at z; simp at z
  have cy : ([(y, c)] : List (Str × Addr)).lookup y = some c := by simp
  have cell1 : h1.IsCell c (some (.ref sh)) := by
    obtain ⟨o, ho, hd⟩ := cell
    exact ⟨o, kp _ _ ho, hd⟩
  have J : Inv (cxL W q L.scope ps y f c c2 A outer s (hide H c)) [] ((vs ++ [V.ref sh]).map some) (hide H c) { s with heap := h1, toks := s.toks + (ps.zip us).length } := by
    refine ⟨⟨e.mod, S.kind, rfl, rfl, Nat.le_refl _, fun x z d h2 h3 => ((cl _ _ h2).1).trans ((cl _ _ h3).1).symm, fun x hx => ?_, fun x d z _ => ?_, fun _ => rm.hd, Around.frames_deeper e.frames, Or.inr ⟨rfl, rfl⟩, fun b z => absurd z (noA b), e2.bs, e.bsz, fun b _ _ => noA b,
        fun b z => absurd z (noA b), e.funs, e2.frf⟩,
      rfl, e.bare, Un.kept kp, ⟨_, hns, fun i x v h2 h3 h4 => ?_⟩, fun x d z => ?_, e2.hok.fresh (Nat.le_refl _), fun x d z => ?_, fun p hp => absurd (show p ∈ ([] : List (Addr × Obj)) ++ [] from hp) (by simp), e2.hok.kept kp, ?_⟩
    · rcases hx with hx | hx
      · exact absurd rfl (S.own _ (PySem.mem_of_lookup hx))
      · have z := S.one _ (PySem.mem_of_lookup hx) rfl
        exact ⟨c, by show ([(y, c)] : List (Str × Addr)).lookup x = some c; rw [show x = y from z]; exact cy⟩
    · have z2 : false = true := z
      cases z2
    · have h2 : (ps ++ [y])[i]? = some x := h2
      have h3 : ((vs ++ [V.ref sh]).map some)[i]? = some (some v) := h3
      rw [List.getElem?_map] at h3
      have h3b : (vs ++ [V.ref sh])[i]? = some v := by
        cases q0 : (vs ++ [V.ref sh])[i]? with
        | none => rw [q0] at h3; cases h3
        | some v0 =>
          rw [q0] at h3
          exact congrArg some (Option.some.inj (Option.some.inj h3))
      by_cases hi : i < ps.length
      · rw [List.getElem?_append_left hi] at h2
        rw [List.getElem?_append_left (by rw [hl]; exact hi)] at h3b
        obtain ⟨u, hu, ru⟩ := rel.get h3b
        exact ⟨u, ru, Or.inl ⟨S.par x (List.mem_of_getElem? h2), lookup_binds (List.nodup_append.mp S.nd).1 h2 hu⟩⟩
      · have hi2 : i < (ps ++ [y]).length := (List.getElem?_eq_some_iff.mp h2).1
        have ei : i = ps.length := by simp at hi2; omega
        subst ei
        have ex : x = y := by simpa using h2.symm
        have ev : v = V.ref sh := by rw [← hl] at h3b; simpa using h3b.symm
        subst ex ev
        exact ⟨.ref sh, rfl, Or.inr ⟨Or.inr S.cap, c, cy, cell1⟩⟩
    · obtain ⟨_, rfl⟩ := cl x d z
      exact ⟨_, cell1⟩
    · obtain ⟨_, rfl⟩ := cl x d z
      exact hide_same
    · simp [hl]
  refine PySem.W.kla_codeExpr (wpAny_mono ((body _ (rm.deeper _) rfl rfl).run [] _ _ (hide H c) _ J want) (fun v s2 z => ?_) fun _ _ z => False.elim z)
  obtain ⟨v1, H1, J1, rv, q1⟩ := z
  exact ce_show e hc ⟨v1, H1, J1.os, J1.bare, J1.base, J1.hok, rv, q1 (J1.freeC y c cy)⟩
end Kn

set_option Elab.async false
set_option linter.all false
set_option maxRecDepth 100000
set_option maxHeartbeats 4000000
/-! Lambdas made, kept in attributes, called. -/
namespace Kn
open PySem PySem.Spec PyProof.Rows L2
section
variable {X : Cx} {pins : List (Addr × Obj)} {σ : L2.St} {H : Hp} {s : Shared}
theorem inv_lam {f : Addr} {L : LD} {q y : Str} {c c2 : Addr} {pm ctv : Value} {h : Heap} {tk : Nat} (I : Inv X pins σ H { s with heap := h, toks := tk }) (ef : h.objs.size = f) :
    Inv X pins σ (upd H f (LamO f L q y c c2)) { s with heap := h.push (PySem.W.kla_obj "<lambda>" q L.params L.body L.scope [(y, c)] pm c2 ctv), toks := tk } := by
  subst ef
  have e : (h.push (PySem.W.kla_obj "<lambda>" q L.params L.body L.scope [(y, c)] pm c2 ctv)).get? h.objs.size = some (PySem.W.kla_obj "<lambda>" q L.params L.body L.scope [(y, c)] pm c2 ctv) := Heap.get?_push_size _ rfl
  exact I.laid (a := h.objs.size) (t' := tk) (fun b u z => Heap.get?_push_of_some _ z) (Nat.le_refl _) (lamO_ok e)
/-- the lambda's making: f the function, c2 its code object -/
def tLam (T : List (Addr × Str)) (L : LD) (q y : Str) (c : Addr) : TE := fun _ H Q => LamX.Tabs T H ∧ ∀ (f c2 : Addr) (H1 : Hp), LamX.ExtN H H1 → LamX.Tabs T H1 → H f = none → H1 f = some (LamO f L q y c c2) → H1 c2 = some (LamX.CodeO c2 q) → Q (.ref f) H1
theorem pe_lam {T : List (Addr × Str)} {cd P c : Addr} {params : Arguments} {body : Expr} {scope : Scope} {pos : Pos} {q y : Str} (TB : LamX.TabB X.base X.mg cd P) (hcode : X.env.code = .ref cd) (hq : X.env.qual ++ "<lambda>" = q)
    (hm : (P, q) ∈ T) (hu : ∀ p ∈ T, p.1 = P → p.2 = q) (hdef : defaultsOf params X.env = ([], [])) (hfree : ∀ z ∈ scope.names, z.2 = .free → X.env.scope.names.lookup z.1 = some .cell ∨ X.env.scope.names.lookup z.1 = some .free)
    (hcl : cloFrom X.env.cells scope.names [] = [(y, c)]) : PE X (.Lambda params body scope pos) (tLam T ⟨params, body, scope⟩ q y c) := by
  refine ⟨fun pins s σ H Q I h => ?_⟩
  obtain ⟨hT, want⟩ := h
  obtain ⟨ps, hP, ht, ha⟩ := hT _ hm
  have caught : ∀ z ∈ scope.names, z.2 = .free → ∃ d, X.env.cells.lookup z.1 = some d := fun z hz e => (hfree z hz e).elim (fun k => I.ok.has _ (Or.inl k)) fun k => I.ok.has _ (Or.inr k)
  have clo := closure_ok caught
  rw [hcl] at clo
  refine PySem.W.kla_eval hdef ?_
  rw [hq]
  have bP : s.heap.BuiltinsAt X.mg P := TB.bm.keeps I.bk
  have tP : s.heap.get? P = some { cls := .none, data := .fields ps } := I.hok P _ hP
  cases hc : codeAmong pos ps.toList with
  | none =>
    refine PySem.W.kla_makeFunction (mg := X.mg) (c := cd) (P := P) (ps := ps) clo I.ok.glob (I.mod.glob.keeps I.bk) hcode (TB.code.keeps I.bk) tP ht hc TB.gP bP fun c2 ctv h2 tk hx hge hlt hrec htb => ?_
    obtain ⟨c3, oc, vs, t, e2, hoc, hd, hv⟩ := hrec
    cases e2
    have nC : H c2 = none := I.hok.fresh hge
    have I1 := LamX.inv_table (t' := tk) (more := #[rawInt pos.line, rawInt pos.col, .ref c2]) (h' := h2) I hP (fun b o hb e => hx b o hb e) htb hge ⟨oc, vs, t, hoc, hd, hv⟩
    generalize eH : upd (upd H P (.tbl (ps ++ #[rawInt pos.line, rawInt pos.col, .ref c2]))) c2 (LamX.CodeO c2 q) = H1 at I1
    have ext : LamX.ExtN H H1 := fun b o e n => by
      rw [← eH, upd_ne (ne_of_none e nC), upd_ne (fun z => n ps (Option.some.inj (e.symm.trans (by rw [z]; exact hP))))]
      exact e
    have tP1 : H1 P = some (.tbl (ps ++ #[rawInt pos.line, rawInt pos.col, .ref c2])) := by rw [← eH, upd_ne (ne_of_none hP nC), upd_same]
    have tC1 : H1 c2 = some (LamX.CodeO c2 q) := by rw [← eH, upd_same]
    have eL : (ps ++ #[rawInt pos.line, rawInt pos.col, .ref c2]).toList = ps.toList ++ [rawInt pos.line, rawInt pos.col, .ref c2] := by simp
    have T1 : LamX.Tabs T H1 := fun p hp => by
      by_cases hb : p.1 = P
      · rw [hu p hp hb, hb]
        refine ⟨_, tP1, by rw [eL]; exact PySem.TriplesOk_snoc _ _ _ _ ht, fun p2 cv hcv => ?_⟩
        rw [eL] at hcv
        rcases LamX.among_app _ ht hcv with z | z
        · obtain ⟨c0, e1, e2⟩ := ha p2 cv z
          exact ⟨c0, e1, ext _ _ e2 LamX.codeO_ne⟩
        · exact ⟨c2, z, tC1⟩
      · obtain ⟨ps2, a1, a2, a3⟩ := hT p hp
        refine ⟨ps2, ?_, a2, fun p2 cv hcv => ?_⟩
        · rw [← eH, upd_ne (ne_of_none a1 nC), upd_ne hb]
          exact a1
        · obtain ⟨c0, e1, e2⟩ := a3 p2 cv hcv
          exact ⟨c0, e1, ext _ _ e2 LamX.codeO_ne⟩
    have nF : H1 h2.objs.size = none := I1.hok.fresh (Nat.le_refl _)
    have I2 := inv_lam (L := ⟨params, body, scope⟩) (q := q) (y := y) (c := c) (c2 := c2) (pm := (X.mg "__name__").getD .none) (ctv := ctv) I1 rfl
    refine ⟨.ref h2.objs.size, _, I2, rfl, want h2.objs.size c2 _ (fun b o e n => ?_) (T1.ext fun b o e => ?_) (I.hok.fresh (Nat.le_trans hge (Nat.le_of_lt hlt))) upd_same ?_⟩
    · have e1 := ext b o e n
      exact (upd_ne (ne_of_none e1 nF)).trans e1
    · exact (upd_ne (ne_of_none e nF)).trans e
    · exact (upd_ne (Nat.ne_of_lt hlt)).trans tC1
  | some cv =>
    obtain ⟨c2, e, hco⟩ := ha pos cv hc
    subst e
    refine PySem.W.kla_makeFunctionHit (mg := X.mg) (c := cd) (P := P) (ps := ps) clo I.ok.glob (I.mod.glob.keeps I.bk) hcode (TB.code.keeps I.bk) tP ht hc bP fun ctv h2 tk hx hsz => ?_
    have I1 : Inv X pins σ H { s with heap := h2, toks := tk } := I.kept hx
    have nF : H h2.objs.size = none := I1.hok.fresh (Nat.le_refl _)
    have I2 := inv_lam (L := ⟨params, body, scope⟩) (q := q) (y := y) (c := c) (c2 := c2) (pm := (X.mg "__name__").getD .none) (ctv := ctv) I1 rfl
    refine ⟨.ref h2.objs.size, _, I2, rfl, want h2.objs.size c2 _ (fun b o e n => ?_) (hT.ext fun b o e => ?_) nF upd_same ?_⟩
    · exact (upd_ne (ne_of_none e nF)).trans e
    · exact (upd_ne (ne_of_none e nF)).trans e
    · exact (upd_ne (ne_of_none hco nF)).trans hco
end
/-! ### such a lambda as a callee -/
structure LamK (W : Wd) (L : LD) (q y : Str) (k : Nat) (sp : GS) : Prop where
  run : ∀ (A : Around) (outer : List Env) (s : Shared) (H : Hp) (f c c2 sh : Addr) (us : List Value) (vs : List V) (Q : VK), Room k A → A.guards = some [] → Env0 W.P W.w W.K W.mg W.base A outer s H →
    H f = some (LamO f L q y c c2) → H c2 = some (LamX.CodeO c2 q) → H c = some (CellO c sh) → Vals vs us → sp (.ref sh :: vs) (hide H c) (fun v H2 => H2 c = none → Q v (upd H2 c (CellO c sh))) →
    codeAny (model W.P W.w) A (.call (.ref f) ⟨us, []⟩) (CR CX0 outer W.P W.w H s Q E0) s
theorem lamK_of {W : Wd} {L : LD} {q y : Str} {k : Nat} {sp : GS} {ps : List Str} {t : TE} (S : LamSc L.scope ps y) (hl : ∀ vs H Q, sp vs H Q → vs.length = ps.length + 1)
    (hb : ∀ (c c2 : Addr) (pm ctv : Value) (us : List Value), us.length = ps.length → bindArgs (PySem.W.kla_fn "<lambda>" q L.params L.body L.scope [(y, c)] pm (.ref c2) ctv) ⟨us, []⟩ = pure (ps.zip us))
    (body : ∀ (f c c2 : Addr) (A : Around) (outer : List Env) (s : Shared) (H : Hp), Room k (A.deeper (lamE q L.scope s.heap.objs.size f c2 y c)) → A.guards = some [] → PE (cxL W q L.scope ps y f c c2 A outer s H) L.body t)
    (red : ∀ (sh : Addr) (vs : List V) (H : Hp) (Q : VK), vs.length = ps.length → sp (.ref sh :: vs) H Q → t ((vs ++ [V.ref sh]).map some) H Q) : LamK W L q y (k + 1) sp := by
  refine ⟨fun A outer s H f c c2 sh us vs Q rm hg e hf hc2 hc rel want => ?_⟩
  have len : vs.length = ps.length := by
    have z := hl _ _ _ want
    simpa using z
  refine lam_run rm e S hf hc2 hc rel len (fun pm ctv => hb c c2 pm ctv us (by rw [← rel.length]; exact len)) (fun A2 r2 g2 e2 => ?_) (red sh vs _ _ len want)
  subst e2
  exact body f c c2 A outer s _ r2 hg
/-- o.m(..), the attribute m holding such a lambda -/
def tFn (K : PySem.W.Frag) (m : Str) (L : LD) (q y : Str) (sp : GS) (ta : TE) (t : TA) : TE := fun σ H Q => ta σ H fun x H1 => ∃ a C dx fs f, x = .ref a ∧ H1 a = some (.ins C dx fs) ∧ Cls K C ∧ NoAttr K C m ∧ fs.lookup m = some (.ref f) ∧
  t σ H1 fun vs H2 => ∃ c c2 sh, H2 f = some (LamO f L q y c c2) ∧ H2 c2 = some (LamX.CodeO c2 q) ∧ H2 c = some (CellO c sh) ∧ sp (.ref sh :: vs) (hide H2 c) (fun v H3 => H3 c = none → Q v (upd H3 c (CellO c sh)))
section
variable {X : Cx} {W : Wd} {k j : Nat} {m : Str} {sp : GS} {pos apos : Pos} {e o : Expr} {es : List Expr} {ta : TE} {t : TA} {L : LD} {q y : Str}
theorem pe_fn {pl : Sem Bool} (he : PE X o ta) (d : LamK W L q y k sp) (hW : wdOf X = W) (rm : Room j X.A) (hk : k ≤ j) (hg : X.A.guards = some []) (ha : PA X (e :: es) t)
    (hst : starEach (e :: es) X.env = (false, eval e X.env) :: starEach es X.env := by rfl) (hpl : (backTo pos (starEach es X.env)).any (·.1) = false := by rfl)
    (ht : eval (.Call (.Attribute o m apos) (e :: es) [] pos) X.env = (do
      let ov ← eval o X.env
      standAt apos.atName
      let (f, first) ← holding [ov] (getMethod ov m pl)
      callWith pos f first (backTo pos (starEach (e :: es) X.env)) (backToKw pos (keywordEach [] X.env))) := by rfl) :
    PE X (.Call (.Attribute o m apos) (e :: es) [] pos) (tFn X.K m L q y sp ta t) := by
  subst hW
  refine ⟨fun pins s σ H Q I h => PySem.W.methodCall_KW (pl := pl) (thn (he.run pins s σ H _ I h) fun u s1 z => ?_) ht⟩
  obtain ⟨x, H1, I1, rx, a, C, dx, fs, f, rfl, ia, cls, na, lk, want⟩ := z
  obtain rfl : u = Value.ref a := rx
  obtain ⟨mA, O, rel, _⟩ := ins_get I1.hok ia
  obtain ⟨od, J, _⟩ := O.look
  refine PySem.W.method_usual I1.kIn J (PySem.W.plainGet_of (cls.get m)).1 (PySem.W.plainGet_of (cls.get m)).2 na rfl ?_
  refine getattr_ok I1 ia cls na lk fun u s2 I2 ru => ?_
  obtain rfl : u = Value.ref f := ru
  have fnAt : ∀ {s3 : Shared} {H3 : Hp}, Inv X pins σ H3 s3 → ∀ {c c2 : Addr}, H3 f = some (LamO f L q y c c2) → PySem.W.FnAt f s3.heap := fun {s3 H3} J3 {c c2} z => by
    obtain ⟨pm, ctv, z2⟩ := lamO_at J3.hok z
    exact ⟨_, _, _, _, z2⟩
  show wpAny _ _ (callWith pos (.ref f) [] (backTo pos (starEach (e :: es) X.env)) []) _ _ s2
  have step := ha.run pos pins s2 σ H1 _ I2 want
  rw [hst] at step ⊢
  refine PySem.W.callWith_of (by show ((false || (backTo pos (starEach es X.env)).any (·.1)) || false) = false; rw [hpl]; rfl) PySem.W.keeps_F (Calls.evalArgs_plain (thn step fun us s3 z => ?_))
  obtain ⟨vs, H3, I3, rv, c, c2, sh, hf, hc2, hc, wn⟩ := z
  refine ⟨fnAt I3 hf, ?_⟩
  refine wpAny_call (codeAny_mono (d.run X.A X.stack s3 H3 f c c2 sh us vs Q (rm.mono hk) hg I3.env0 hf hc2 hc rv wn) fun r s4 out => ?_)
  cases r with
  | error e => exact out.elim
  | ok fl =>
    cases fl with
    | ret u => exact I3.after out
    | next => exact out.elim
    | brk => exact out.elim
    | cont => exact out.elim
end
end Kn

set_option Elab.async false
set_option linter.all false
set_option maxRecDepth 100000
set_option maxHeartbeats 4000000
/-! The nets in plain Lean: state, events, the machines' memories, runs by a pattern; no program in sight. -/
namespace Kn
open PySem PySem.Spec PyProof.Rows L2
/-! ### data that can be shown -/
structure Sw (B m : Nat) (d : PyData) : Prop where
  nd : d.hasDict = false
  sh : d.showable = true
  dp : d.depth ≤ m
  sz : d.shown.length ≤ B
theorem Sw.y {B m : Nat} {d : PyData} (h : Sw B m d) (hm : m ≤ 60) (hB : B ≤ sizeLine) : KnM.Showy d := ⟨h.nd, h.sh, Nat.le_trans h.dp hm, Nat.le_trans h.sz hB⟩
theorem Sw.mono {B m B2 m2 : Nat} {d : PyData} (h : Sw B m d) (hB : B ≤ B2) (hm : m ≤ m2) : Sw B2 m2 d := ⟨h.nd, h.sh, Nat.le_trans h.dp hm, Nat.le_trans h.sz hB⟩
theorem sw_none : Sw 2000 0 .none := ⟨by simp [PyData.hasDict], by simp [PyData.showable], by simp [PyData.depth], by simp [PyData.shown]; decide⟩
theorem sw_bool {b : Bool} : Sw 2000 0 (.bool b) := ⟨by simp [PyData.hasDict], by simp [PyData.showable], by simp [PyData.depth], by cases b <;> simp [PyData.shown] <;> decide⟩
theorem sw_int {i : Int} (h : i.natAbs.log2 < 1920) : Sw 2000 0 (.int i) := ⟨by simp [PyData.hasDict], by simp [PyData.showable, h], by simp [PyData.depth], by
  have := int_text_len_1921 h
  have e : (PyData.int i).shown = Str.ofString (toString i) := by simp [PyData.shown]
  rw [e]
  omega⟩
theorem log2_small {n : Nat} (h : n < 2 ^ 64) : n.log2 < 1920 := by
  by_cases h0 : n = 0
  · subst h0; decide
  · have := (Nat.log2_lt h0).2 h
    omega
theorem sw_small {i : Int} (h : i.natAbs < 2 ^ 64) : Sw 2000 0 (.int i) := sw_int (log2_small h)
theorem hasDictAll_of : ∀ {ds : List PyData}, (∀ d ∈ ds, d.hasDict = false) → PyData.hasDictAll ds = false
  | [], _ => by simp [PyData.hasDictAll]
  | d :: ds, h => by
    have h1 := h d (by simp)
    have h2 := hasDictAll_of fun x hx => h x (List.mem_cons_of_mem _ hx)
    simp [PyData.hasDictAll, h1, h2]
theorem showableAll_of : ∀ {ds : List PyData}, (∀ d ∈ ds, d.showable = true) → PyData.showableAll ds = true
  | [], _ => by simp [PyData.showableAll]
  | d :: ds, h => by
    have h1 := h d (by simp)
    have h2 := showableAll_of fun x hx => h x (List.mem_cons_of_mem _ hx)
    simp [PyData.showableAll, h1, h2]
theorem depthAll_of {m : Nat} : ∀ {ds : List PyData}, (∀ d ∈ ds, d.depth ≤ m) → PyData.depthAll ds ≤ m
  | [], _ => by simp [PyData.depthAll]
  | d :: ds, h => by
    have h1 := h d (by simp)
    have h2 := depthAll_of fun x hx => h x (List.mem_cons_of_mem _ hx)
    simp only [PyData.depthAll]
    omega
theorem shownAll_sum {B : Nat} : ∀ {ds : List PyData}, (∀ d ∈ ds, d.shown.length ≤ B) → ((PyData.shownAll ds).map (·.length)).sum ≤ ds.length * B ∧ (PyData.shownAll ds).length = ds.length
  | [], _ => by simp [PyData.shownAll]
  | d :: ds, h => by
    have h1 := h d (by simp)
    obtain ⟨h2, h3⟩ := shownAll_sum (B := B) (ds := ds) fun x hx => h x (List.mem_cons_of_mem _ hx)
    simp only [PyData.shownAll, List.map_cons, List.sum_cons, List.length_cons, Nat.add_mul, Nat.one_mul]
    omega
theorem sw_tup {B m n : Nat} {ds : List PyData} (h : ∀ d ∈ ds, Sw B m d) (hn : ds.length ≤ n) : Sw (n * (B + 2) + 3) (m + 1) (.tuple ds) := by
  refine ⟨by simp only [PyData.hasDict]; exact hasDictAll_of fun d hd => (h d hd).nd, by simp only [PyData.showable]; exact showableAll_of fun d hd => (h d hd).sh, by simp only [PyData.depth]; exact Nat.succ_le_succ (depthAll_of fun d hd => (h d hd).dp), ?_⟩
  obtain ⟨h1, h2⟩ := shownAll_sum (B := B) (ds := ds) fun d hd => (h d hd).sz
  have h3 := StrLaws.join_length_le ", " (PyData.shownAll ds)
  have h4 : (", " : Str).length = 2 := rfl
  rw [PyData.shown_tuple, strLen_append, strLen_append]
  have e1 : ("(" : Str).length = 1 := rfl
  have e3 : (((if ds.length == 1 then ",)" else ")" : String)) : Str).length ≤ 2 := by split <;> decide
  have h5 : ds.length * B ≤ n * B := Nat.mul_le_mul_right _ hn
  rw [h2, h4] at h3
  have h6 : n * (B + 2) = n * B + n * 2 := Nat.mul_add _ _ _
  rw [e1, h6]
  have h7 : ds.length * 2 ≤ n * 2 := Nat.mul_le_mul_right _ hn
  omega
theorem sw_str {x : Str} (h : (PyData.str x).shown.length ≤ 2000) : Sw 2000 0 (.str x) := ⟨by simp [PyData.hasDict], by simp [PyData.showable], by simp [PyData.depth], h⟩
/-! ### machines -/
structure Sh where
  rounds : Nat
  fac : Int
  salt : Int
  kind : Nat
structure Sh.Ok (s : Sh) : Prop where
  r : s.rounds ≤ 12
  f0 : 0 ≤ s.fac
  f : s.fac < 1000
  s0 : 0 ≤ s.salt
  s1 : s.salt < 1000000
  k : s.kind ≤ 2
  k1 : s.kind = 1 → s.rounds ≤ 2
def modTot (s : Sh) (t : Int) : PyData := if s.kind = 2 ∧ t % 4 = 0 then .none else .int t
def beginD (s : Sh) (me : Nat) (v : Int) : PyData := if s.kind = 1 then .tuple [.str "first", .int me, .int v] else modTot s ((s.salt + 131 * (me : Int) + 7 * v) % 1000003)
def partD : PyData → Int
  | .int i => i + 7
  | _ => 5
def stepUp (s : Sh) (t0 : Int) (heard : Nat → PyData) : Nat → Int
  | 0 => t0
  | i + 1 => (stepUp s t0 heard i * s.fac + partD (heard i) * ((i : Int) + 11)) % 1000003
def stepD (s : Sh) (n me r : Nat) (mem : PyData) (heard : Nat → PyData) : PyData :=
  if s.kind = 1 then .tuple [.str "then", .int me, .int r, .tuple ((List.range n).map heard)] else modTot s (stepUp s (s.salt + 31 * (me : Int) + 17 * (r : Int) + 1) heard n)
def totD (s : Sh) : PyData → Int
  | .none => 4
  | .int i => if s.kind = 1 then ((PyData.int i).shown.length : Nat) else i
  | d => (d.shown.length : Nat)
/-- the integer answered, none for what is no integer -/
def ansD (s : Sh) (me : Nat) (d : PyData) : Option Int := if totD s d % 9 = 0 then none else some (totD s d - 500 * (me : Int))
/-- what a memory ahead of round r is like -/
def MemB : Nat → Nat
  | 0 => 10000
  | 1 => 300000
  | _ => 7000000
structure MemOk (s : Sh) (r : Nat) (d : PyData) : Prop where
  k0 : s.kind = 0 → ∃ i : Int, d = .int i ∧ 0 ≤ i ∧ i < 1000003
  k1 : s.kind = 1 → (∃ ds, d = .tuple ds) ∧ Sw (MemB r) (r * 2 + 1) d
  k2 : s.kind = 2 → d = .none ∨ ∃ i : Int, d = .int i ∧ 0 ≤ i ∧ i < 1000003
def HeardOk (s : Sh) (r : Nat) (d : PyData) : Prop := d = .none ∨ MemOk s r d
theorem modTot_ok {s : Sh} {t : Int} (h0 : 0 ≤ t) (h1 : t < 1000003) (hk : s.kind ≠ 1) (r : Nat) : MemOk s r (modTot s t) := by
  unfold modTot
  refine ⟨fun k => ⟨t, by simp [k], h0, h1⟩, fun k => absurd k hk, fun k => ?_⟩
  by_cases h : t % 4 = 0
  · exact .inl (by simp [k, h])
  · exact .inr ⟨t, by simp [h], h0, h1⟩
theorem begin_ok {s : Sh} {me : Nat} {v : Int} (hm : me < 5) (hv : v.natAbs < 2 ^ 64) : MemOk s 0 (beginD s me v) := by
  unfold beginD
  by_cases h : s.kind = 1
  · rw [if_pos h]
    refine ⟨fun k => absurd (k.symm.trans h) (by decide), fun _ => ⟨⟨_, rfl⟩, ?_⟩, fun k => absurd (k.symm.trans h) (by decide)⟩
    have := sw_tup (B := 2000) (m := 0) (n := 3) (ds := [.str "first", .int me, .int v]) (fun d hd => ?_) (by simp)
    · exact this.mono (by decide) (by decide)
    · simp at hd
      rcases hd with rfl | rfl | rfl
      · exact sw_str (by simp [PyData.shown]; decide +kernel)
      · exact sw_small (by omega)
      · exact sw_small hv
  · rw [if_neg h]
    exact modTot_ok (Int.emod_nonneg _ (by decide)) (Int.emod_lt_of_pos _ (by decide)) h 0
theorem step_ok {s : Sh} {n me r : Nat} {mem : PyData} {heard : Nat → PyData} (hn : 0 < n) (hn5 : n ≤ 5) (hm : me < 5) (hr : r < s.rounds) (hk : s.Ok) (hh : ∀ i, i < n → HeardOk s r (heard i)) : MemOk s (r + 1) (stepD s n me r mem heard) := by
  unfold stepD
  by_cases h : s.kind = 1
  · rw [if_pos h]
    refine ⟨fun k => absurd (k.symm.trans h) (by decide), fun _ => ⟨⟨_, rfl⟩, ?_⟩, fun k => absurd (k.symm.trans h) (by decide)⟩
    have r2 := hk.k1 h
    have hB : 2000 ≤ MemB r := by unfold MemB; split <;> decide
    have a1 := sw_tup (B := MemB r) (m := r * 2 + 1) (n := 5) (ds := (List.range n).map heard) (fun d hd => ?_) (by simpa using hn5)
    · have a2 := sw_tup (B := 5 * (MemB r + 2) + 3) (m := r * 2 + 1 + 1) (n := 4) (ds := [.str "then", .int me, .int r, .tuple ((List.range n).map heard)]) (fun d hd => ?_) (by simp)
      · refine a2.mono ?_ (by omega)
        have : r = 0 ∨ r = 1 := by omega
        rcases this with rfl | rfl <;> decide
      · simp only [List.mem_cons, List.not_mem_nil, or_false] at hd
        rcases hd with rfl | rfl | rfl | rfl
        · exact (sw_str (by simp [PyData.shown]; decide +kernel)).mono (by omega) (by omega)
        · exact (sw_small (by omega)).mono (by omega) (by omega)
        · exact (sw_small (by omega)).mono (by omega) (by omega)
        · exact a1
    · obtain ⟨i, hi, rfl⟩ := List.mem_map.1 hd
      rcases hh i (List.mem_range.1 hi) with z | z
      · rw [z]
        exact sw_none.mono hB (by omega)
      · exact (z.k1 h).2
  · rw [if_neg h]
    obtain ⟨m, rfl⟩ : ∃ m, n = m + 1 := ⟨n - 1, by omega⟩
    exact modTot_ok (Int.emod_nonneg _ (by decide)) (Int.emod_lt_of_pos _ (by decide)) h _
theorem stepUp_congr {s : Sh} {t0 : Int} {h1 h2 : Nat → PyData} : ∀ {n : Nat}, (∀ i, i < n → h1 i = h2 i) → stepUp s t0 h1 n = stepUp s t0 h2 n
  | 0, _ => rfl
  | n + 1, h => by
    have e := stepUp_congr (s := s) (t0 := t0) (n := n) fun i hi => h i (by omega)
    simp only [stepUp, e, h n (by omega)]
theorem stepD_congr {s : Sh} {n me r : Nat} {mem mem2 : PyData} {h1 h2 : Nat → PyData} (h : ∀ i, i < n → h1 i = h2 i) : stepD s n me r mem h1 = stepD s n me r mem2 h2 := by
  unfold stepD
  have e : (List.range n).map h1 = (List.range n).map h2 := List.map_congr_left fun i hi => h i (List.mem_range.1 hi)
  rw [stepUp_congr h, e]
theorem tot_bound {s : Sh} {r : Nat} {d : PyData} (hk : s.kind ≤ 2) (hr : r ≤ 2 ∨ s.kind ≠ 1) (h : MemOk s r d) : 0 ≤ totD s d ∧ totD s d < 8000000 := by
  have : s.kind = 0 ∨ s.kind = 1 ∨ s.kind = 2 := by omega
  rcases this with k | k | k
  · obtain ⟨i, rfl, h0, h1⟩ := h.k0 k
    simp only [totD, k]
    constructor <;> simp <;> omega
  · obtain ⟨⟨ds, rfl⟩, w⟩ := h.k1 k
    have : (PyData.tuple ds).shown.length ≤ 7000000 := Nat.le_trans w.sz (by unfold MemB; split <;> decide)
    simp only [totD]
    constructor <;> omega
  · rcases h.k2 k with rfl | ⟨i, rfl, h0, h1⟩
    · simp [totD]
    · simp only [totD, k]
      constructor <;> simp <;> omega
/-! ### nets -/
structure NS where
  bag : List (Nat × Nat × Nat)
  up : Nat → Bool
  miss : Nat → List (Option Nat)
  note : Nat → Nat → PyData
  K : Nat → Nat → Nat → Bool
  t : Nat
def NS.done (S : NS) (i : Nat) : Nat := (S.miss i).length
def setN {α : Type} (f : Nat → α) (i : Nat) (v : α) : Nat → α := fun j => if j = i then v else f j
theorem setN_same {α : Type} {f : Nat → α} {i : Nat} {v : α} : setN f i v i = v := by simp [setN]
theorem setN_ne {α : Type} {f : Nat → α} {i j : Nat} {v : α} (h : j ≠ i) : setN f i v j = f j := by simp [setN, h]
/-- the letters of a round that a machine writes -/
def lets (n me r : Nat) : List (Nat × Nat × Nat) := ((List.range n).filter fun o => decide (o ≠ me)).map fun o => (o, me, r)
def wroteS (S : NS) (n me r : Nat) : NS := { S with bag := S.bag ++ lets n me r }
def lacksS (S : NS) (n me : Nat) : List Nat := (List.range n).filter fun o => decide (o ≠ me) && !S.K me (S.done me) o
def heardS (S : NS) (me : Nat) (o : Nat) : PyData := if o = me then S.note me (S.done me) else if S.K me (S.done me) o = true then S.note o (S.done me) else .none
def goneS (sh : Sh) (S : NS) (n me : Nat) : NS :=
  { S with note := setN S.note me (setN (S.note me) (S.done me + 1) (stepD sh n me (S.done me) (S.note me (S.done me)) (heardS S me))), miss := setN S.miss me (S.miss me ++ [(lacksS S n me).head?]) }
def goS (sh : Sh) (S : NS) (n me : Nat) : NS := if S.done me + 1 < sh.rounds then wroteS (goneS sh S n me) n me (S.done me + 1) else goneS sh S n me
def comeS (S : NS) (k : Nat) : NS := match S.bag[k]? with
  | none => S
  | some (to, «by», r) => { S with bag := S.bag.eraseIdx k, K := if S.done to ≤ r then setN S.K to (setN (S.K to) r (setN (S.K to r) «by» true)) else S.K }
def doubleS (S : NS) (k : Nat) : NS := match S.bag[k]? with
  | none => S
  | some l => { S with bag := S.bag ++ [l] }
def againUp (S : NS) (n me : Nat) : Nat → NS
  | 0 => S
  | r + 1 => wroteS (againUp S n me r) n me r
def againS (sh : Sh) (S : NS) (n me : Nat) : NS := againUp S n me (min (S.done me + 1) sh.rounds)
def fallS (S : NS) (me : Nat) (b : Bool) : NS := { S with up := setN S.up me b, K := setN S.K me fun _ _ => false }
inductive Wo where
  | come | double | go | fall | rise | again
deriving DecidableEq
def Wo.str : Wo → Str
  | .come => "come"
  | .double => "double"
  | .go => "go"
  | .fall => "fall"
  | .rise => "rise"
  | .again => "again"
def doS0 (sh : Sh) (S : NS) (n : Nat) (w : Wo) (k : Nat) : NS := match w with
  | .come => comeS S k
  | .double => doubleS S k
  | .go => goS sh S n k
  | .again => againS sh S n k
  | .fall => fallS S k false
  | .rise => fallS S k true
def doS (sh : Sh) (S : NS) (n : Nat) (w : Wo) (k : Nat) : NS := { doS0 sh S n w k with t := S.t + 1 }
def upOf (S : NS) (k : Nat) : Bool := match S.bag[k]? with
  | none => false
  | some l => S.up l.1
def canS (sh : Sh) (S : NS) (n : Nat) (w : Wo) (k : Int) : Bool := match w with
  | .come => decide (0 ≤ k) && decide (k < S.bag.length) && upOf S k.toNat
  | .double => decide (0 ≤ k) && decide (k < S.bag.length)
  | .rise => decide (0 ≤ k) && decide (k < n) && !S.up k.toNat
  | .go => decide (0 ≤ k) && decide (k < n) && S.up k.toNat && (decide (S.done k.toNat < sh.rounds) && decide ((lacksS S n k.toNat).length ≤ 1))
  | _ => decide (0 ≤ k) && decide (k < n) && S.up k.toNat
/-! ### what always holds -/
structure InvS (sh : Sh) (n : Nat) (ins : List Int) (S : NS) : Prop where
  bag : ∀ l ∈ S.bag, l.1 < n ∧ l.2.1 < n ∧ l.1 ≠ l.2.1 ∧ l.2.2 ≤ S.done l.2.1 ∧ l.2.2 < sh.rounds
  k : ∀ me r o, S.K me r o = true → o < n ∧ o ≠ me ∧ r ≤ S.done o
  done : ∀ me, me < n → S.done me ≤ sh.rounds
  first : ∀ me, me < n → S.note me 0 = beginD sh me (ins.getD me 0)
  next : ∀ me r m, me < n → (S.miss me)[r]? = some m → S.note me (r + 1) = stepD sh n me r (S.note me r) (fun o => if m = some o then .none else S.note o r) ∧ ∀ o, o < n → m ≠ some o → r ≤ S.done o
  miss : ∀ me m, me < n → m ∈ S.miss me → ∀ o, m = some o → o < n ∧ o ≠ me
  mem : ∀ me r, me < n → r ≤ S.done me → MemOk sh r (S.note me r)
  sz : S.bag.length ≤ 100 + 60 * S.t
theorem lets_mem {n me r : Nat} {l : Nat × Nat × Nat} (h : l ∈ lets n me r) : l.1 < n ∧ l.1 ≠ me ∧ l.2.1 = me ∧ l.2.2 = r := by
  unfold lets at h
  obtain ⟨o, ho, rfl⟩ := List.mem_map.1 h
  obtain ⟨h1, h2⟩ := List.mem_filter.1 ho
  exact ⟨List.mem_range.1 h1, by simpa using h2, rfl, rfl⟩
theorem lets_len {n me r : Nat} (hn : n ≤ 5) : (lets n me r).length ≤ 5 := by
  unfold lets
  rw [List.length_map]
  have := List.length_filter_le (fun o => decide (o ≠ me)) (List.range n)
  rw [List.length_range] at this
  omega
section
variable {sh : Sh} {n : Nat} {ins : List Int} {S : NS}
theorem InvS.heard (I : InvS sh n ins S) {me : Nat} (hm : me < n) : ∀ o, o < n → HeardOk sh (S.done me) (heardS S me o) := fun o ho => by
  unfold heardS
  split
  · exact .inr (I.mem me _ hm (Nat.le_refl _))
  · split
    · rename_i h
      obtain ⟨_, _, h3⟩ := I.k _ _ _ h
      exact .inr (I.mem o _ ho h3)
    · exact .inl rfl
theorem wrote_done {me r : Nat} (i : Nat) : (wroteS S n me r).done i = S.done i := rfl
theorem wrote_inv (I : InvS sh n ins S) {me r : Nat} (hm : me < n) (hr : r ≤ S.done me) (hr2 : r < sh.rounds) {T : Nat} (hs : (wroteS S n me r).bag.length ≤ 100 + 60 * T) : InvS sh n ins { wroteS S n me r with t := T } := by
  refine ⟨fun l hl => ?_, I.k, I.done, I.first, I.next, I.miss, I.mem, hs⟩
  rcases List.mem_append.1 hl with h | h
  · exact I.bag l h
  · obtain ⟨a, b, c, d⟩ := lets_mem h
    exact ⟨a, c ▸ hm, by rw [c]; exact b, by rw [c, d]; exact hr, by rw [d]; exact hr2⟩
theorem InvS.later (I : InvS sh n ins S) {T : Nat} (h : S.t ≤ T) : InvS sh n ins { S with t := T } :=
  ⟨I.bag, I.k, I.done, I.first, I.next, I.miss, I.mem, Nat.le_trans I.sz (by show _ ≤ 100 + 60 * T; omega)⟩
theorem gone_done_me {me : Nat} : (goneS sh S n me).done me = S.done me + 1 := by simp [NS.done, goneS, setN_same]
theorem gone_done_ne {me i : Nat} (h : i ≠ me) : (goneS sh S n me).done i = S.done i := by simp [NS.done, goneS, setN_ne h]
theorem gone_done_le {me : Nat} (i : Nat) : S.done i ≤ (goneS sh S n me).done i := by
  by_cases h : i = me
  · subst h
    rw [gone_done_me]
    omega
  · rw [gone_done_ne h]
    exact Nat.le_refl _
theorem gone_note {me i r : Nat} (h : r ≤ S.done i) : (goneS sh S n me).note i r = S.note i r := by
  show setN S.note me _ i r = _
  by_cases e : i = me
  · subst e
    rw [setN_same, setN_ne (by omega)]
  · rw [setN_ne e]
theorem head_of_lacks {me : Nat} (hl : (lacksS S n me).length ≤ 1) {o : Nat} (ho : o < n) (hne : o ≠ me) (hk : S.K me (S.done me) o = false) : (lacksS S n me).head? = some o := by
  have h : o ∈ lacksS S n me := List.mem_filter.2 ⟨List.mem_range.2 ho, by simp [hne, hk]⟩
  match e : lacksS S n me, h, hl with
  | [x], h, _ => simp at h; simp [h]
theorem head_lacks_mem {me o : Nat} (h : (lacksS S n me).head? = some o) : o < n ∧ o ≠ me ∧ S.K me (S.done me) o = false := by
  have h : o ∈ lacksS S n me := List.mem_of_head? h
  obtain ⟨h1, h2⟩ := List.mem_filter.1 h
  simp at h2
  exact ⟨List.mem_range.1 h1, h2.1, h2.2⟩
theorem heard_eq {me : Nat} (hl : (lacksS S n me).length ≤ 1) {o : Nat} (ho : o < n) : heardS S me o = if (lacksS S n me).head? = some o then .none else S.note o (S.done me) := by
  unfold heardS
  by_cases e : o = me
  · subst e
    rw [if_pos rfl, if_neg]
    intro h
    exact (head_lacks_mem h).2.1 rfl
  · rw [if_neg e]
    by_cases k : S.K me (S.done me) o = true
    · rw [if_pos k, if_neg]
      intro h
      rw [(head_lacks_mem h).2.2] at k
      cases k
    · rw [if_neg k, if_pos (head_of_lacks hl ho e (by simpa using k))]
theorem gone_inv (I : InvS sh n ins S) (hk : sh.Ok) (hn : 0 < n) (hn5 : n ≤ 5) {me : Nat} (hm : me < n) (hr : S.done me < sh.rounds) (hl : (lacksS S n me).length ≤ 1) : InvS sh n ins (goneS sh S n me) := by
  refine ⟨fun l h => ?_, fun i r o h => ?_, fun i hi => ?_, fun i hi => ?_, fun i r m hi h => ?_, fun i m hi h o e => ?_, fun i r hi h => ?_, I.sz⟩
  · obtain ⟨a, b, c, d, e⟩ := I.bag l h
    exact ⟨a, b, c, Nat.le_trans d (gone_done_le _), e⟩
  · obtain ⟨a, b, c⟩ := I.k i r o h
    exact ⟨a, b, Nat.le_trans c (gone_done_le _)⟩
  · by_cases e : i = me
    · subst e
      rw [gone_done_me]
      omega
    · rw [gone_done_ne e]
      exact I.done i hi
  · rw [gone_note (Nat.zero_le _)]
    exact I.first i hi
  · by_cases e : i = me
    · subst e
      have h0 : (S.miss i ++ [(lacksS S n i).head?])[r]? = some m := by
        have : (goneS sh S n i).miss i = S.miss i ++ [(lacksS S n i).head?] := setN_same
        rw [this] at h
        exact h
      by_cases hr2 : r < S.done i
      · rw [List.getElem?_append_left hr2] at h0
        obtain ⟨a, b⟩ := I.next i r m hi h0
        refine ⟨?_, fun o ho hm => Nat.le_trans (b o ho hm) (gone_done_le _)⟩
        rw [gone_note (by omega), a]
        refine stepD_congr fun o ho => ?_
        by_cases z : m = some o
        · rw [if_pos z, if_pos z]
        · rw [if_neg z, if_neg z, gone_note (b o ho z)]
      · have hr3 : r = S.done i := by
          have := (List.getElem?_eq_some_iff.1 h0).1
          rw [List.length_append, List.length_singleton] at this
          have : r < S.done i + 1 := this
          omega
        subst hr3
        have em : m = (lacksS S n i).head? := by
          have : (S.miss i ++ [(lacksS S n i).head?])[(S.miss i).length]? = some ((lacksS S n i).head?) := by simp
          exact Option.some.inj (h0.symm.trans this)
        have hd : ∀ o, o < n → m ≠ some o → S.done i ≤ S.done o := fun o ho hne => by
          by_cases e2 : o = i
          · subst e2; exact Nat.le_refl _
          · by_cases k : S.K i (S.done i) o = true
            · exact (I.k _ _ _ k).2.2
            · exact absurd (em.trans (head_of_lacks hl ho e2 (by simpa using k))) hne
        refine ⟨?_, fun o ho hm => Nat.le_trans (hd o ho hm) (gone_done_le _)⟩
        have e1 : (goneS sh S n i).note i (S.done i + 1) = stepD sh n i (S.done i) (S.note i (S.done i)) (heardS S i) := by
          show setN S.note i _ i _ = _
          rw [setN_same, setN_same]
        rw [e1]
        refine stepD_congr fun o ho => ?_
        rw [heard_eq hl ho, em]
        split
        · rfl
        · rename_i z
          rw [gone_note (hd o ho (by rw [em]; exact z))]
    · have h0 : (S.miss i)[r]? = some m := by
        have : (goneS sh S n me).miss i = S.miss i := setN_ne e
        rw [this] at h
        exact h
      have hr2 : r < S.done i := (List.getElem?_eq_some_iff.1 h0).1
      obtain ⟨a, b⟩ := I.next i r m hi h0
      refine ⟨?_, fun o ho hm => Nat.le_trans (b o ho hm) (gone_done_le _)⟩
      rw [gone_note (by omega), a]
      refine stepD_congr fun o ho => ?_
      by_cases z : m = some o
      · rw [if_pos z, if_pos z]
      · rw [if_neg z, if_neg z, gone_note (b o ho z)]
  · by_cases e2 : i = me
    · subst e2
      have : (goneS sh S n i).miss i = S.miss i ++ [(lacksS S n i).head?] := setN_same
      rw [this] at h
      rcases List.mem_append.1 h with h | h
      · exact I.miss i m hi h o e
      · simp at h
        rw [e] at h
        have := head_lacks_mem h.symm
        exact ⟨this.1, this.2.1⟩
    · have : (goneS sh S n me).miss i = S.miss i := setN_ne e2
      rw [this] at h
      exact I.miss i m hi h o e
  · by_cases h1 : r ≤ S.done i
    · rw [gone_note h1]
      exact I.mem i r hi h1
    · have e : i = me := by
        by_cases e : i = me
        · exact e
        · rw [gone_done_ne e] at h
          exact absurd h h1
      subst e
      rw [gone_done_me] at h
      have er : r = S.done i + 1 := by omega
      subst er
      have e1 : (goneS sh S n i).note i (S.done i + 1) = stepD sh n i (S.done i) (S.note i (S.done i)) (heardS S i) := by
        show setN S.note i _ i _ = _
        rw [setN_same, setN_same]
      rw [e1]
      exact step_ok hn hn5 (by omega) hr hk (I.heard hm)
theorem againUp_same (S : NS) (n me : Nat) : ∀ r, (againUp S n me r).up = S.up ∧ (againUp S n me r).miss = S.miss ∧ (againUp S n me r).note = S.note ∧ (againUp S n me r).K = S.K ∧ (againUp S n me r).t = S.t
  | 0 => ⟨rfl, rfl, rfl, rfl, rfl⟩
  | r + 1 => againUp_same S n me r
theorem againUp_len (hn : n ≤ 5) (me : Nat) : ∀ r, (againUp S n me r).bag.length ≤ S.bag.length + 5 * r
  | 0 => Nat.le_refl _
  | r + 1 => by
    have h := againUp_len hn me r
    have h2 := lets_len (n := n) (me := me) (r := r) hn
    show ((againUp S n me r).bag ++ lets n me r).length ≤ _
    rw [List.length_append]
    omega
theorem againUp_bag (me : Nat) : ∀ r l, l ∈ (againUp S n me r).bag → l ∈ S.bag ∨ ∃ q, q < r ∧ l ∈ lets n me q
  | 0, l, h => .inl h
  | r + 1, l, h => by
    rcases List.mem_append.1 (show l ∈ (againUp S n me r).bag ++ lets n me r from h) with h | h
    · rcases againUp_bag me r l h with h | ⟨q, h1, h2⟩
      · exact .inl h
      · exact .inr ⟨q, by omega, h2⟩
    · exact .inr ⟨r, by omega, h⟩
/-- the event changes nobody's done rounds but by a go -/
theorem inv_do (I : InvS sh n ins S) (hk : sh.Ok) (hn : 0 < n) (hn5 : n ≤ 5) {w : Wo} {k : Nat} (h : canS sh S n w (k : Int) = true) : InvS sh n ins (doS sh S n w k) := by
  cases w with
  | come =>
    simp [canS] at h
    obtain ⟨h1, h2⟩ := h
    have h1 : k < S.bag.length := by omega
    have e : S.bag[k]? = some S.bag[k] := by simp [h1]
    show InvS sh n ins { comeS S k with t := S.t + 1 }
    unfold comeS
    rw [e]
    obtain ⟨b1, b2, b3, b4, b5⟩ := I.bag S.bag[k] (List.getElem_mem h1)
    match hl : S.bag[k], b1, b2, b3, b4, b5 with
    | (to, «by», r), b1, b2, b3, b4, b5 =>
    refine ⟨fun l hl => I.bag l (List.mem_of_mem_eraseIdx hl), fun me q o hK => ?_, I.done, I.first, I.next, I.miss, I.mem, ?_⟩
    · by_cases c : S.done to ≤ r
      · have hK : (if S.done to ≤ r then setN S.K to (setN (S.K to) r (setN (S.K to r) «by» true)) else S.K) me q o = true := hK
        rw [if_pos c] at hK
        by_cases e1 : me = to
        · subst e1
          rw [setN_same] at hK
          by_cases e2 : q = r
          · subst e2
            rw [setN_same] at hK
            by_cases e3 : o = «by»
            · subst e3
              exact ⟨b2, fun z => b3 z.symm, b4⟩
            · rw [setN_ne e3] at hK
              exact I.k _ _ _ hK
          · rw [setN_ne e2] at hK
            exact I.k _ _ _ hK
        · rw [setN_ne e1] at hK
          exact I.k _ _ _ hK
      · have hK : (if S.done to ≤ r then setN S.K to (setN (S.K to) r (setN (S.K to r) «by» true)) else S.K) me q o = true := hK
        rw [if_neg c] at hK
        exact I.k _ _ _ hK
    · show (S.bag.eraseIdx k).length ≤ 100 + 60 * (S.t + 1)
      have := I.sz
      have := List.length_eraseIdx_le S.bag k
      omega
  | double =>
    simp [canS] at h
    have h1 : k < S.bag.length := by omega
    have e : S.bag[k]? = some S.bag[k] := by simp [h1]
    show InvS sh n ins { doubleS S k with t := S.t + 1 }
    unfold doubleS
    rw [e]
    refine ⟨fun l hl => ?_, I.k, I.done, I.first, I.next, I.miss, I.mem, ?_⟩
    · rcases List.mem_append.1 (show l ∈ S.bag ++ [S.bag[k]] from hl) with q | q
      · exact I.bag l q
      · simp at q
        rw [q]
        exact I.bag _ (List.getElem_mem h1)
    · show (S.bag ++ [S.bag[k]]).length ≤ 100 + 60 * (S.t + 1)
      have := I.sz
      simp
      omega
  | go =>
    simp [canS] at h
    obtain ⟨⟨h1, h2⟩, h3, h4⟩ := h
    have hm : k < n := by omega
    have G := gone_inv I hk hn hn5 hm h3 h4
    show InvS sh n ins { goS sh S n k with t := S.t + 1 }
    unfold goS
    have hl := lets_len (n := n) (me := k) (r := S.done k + 1) hn5
    have hs := I.sz
    split
    · rename_i h5
      refine wrote_inv G hm (by rw [gone_done_me]; exact Nat.le_refl _) h5 ?_
      show (S.bag ++ lets n k (S.done k + 1)).length ≤ _
      rw [List.length_append]
      omega
    · exact G.later (Nat.le_succ _)
  | again =>
    simp [canS] at h
    have hm : k < n := by omega
    show InvS sh n ins { againS sh S n k with t := S.t + 1 }
    unfold againS
    obtain ⟨e1, e2, e3, e4, e5⟩ := againUp_same S n k (min (S.done k + 1) sh.rounds)
    have dn : ∀ i, (againUp S n k (min (S.done k + 1) sh.rounds)).done i = S.done i := fun i => by
      show ((againUp S n k _).miss i).length = _
      rw [e2]
      rfl
    refine ⟨fun l hl => ?_, fun me r o => ?_, fun me => ?_, fun me => ?_, fun me r m => ?_, fun me m => ?_, fun me r => ?_, ?_⟩
    · rcases againUp_bag k _ l hl with q | ⟨q, h1, h2⟩
      · obtain ⟨a, b, c, d, e⟩ := I.bag l q
        exact ⟨a, b, c, by show _ ≤ (againUp S n k _).done _; rw [dn]; exact d, e⟩
      · obtain ⟨a, b, c, d⟩ := lets_mem h2
        refine ⟨a, c ▸ hm, by rw [c]; exact b, ?_, by rw [d]; omega⟩
        show _ ≤ (againUp S n k _).done _
        rw [dn, c, d]
        omega
    · show (againUp S n k _).K me r o = true → _ ∧ _ ∧ r ≤ (againUp S n k _).done o
      rw [dn, e4]
      exact I.k me r o
    · show me < n → (againUp S n k _).done me ≤ _
      rw [dn]
      exact I.done me
    · show me < n → (againUp S n k _).note me 0 = _
      rw [e3]
      exact I.first me
    · show me < n → ((againUp S n k _).miss me)[r]? = some m → (againUp S n k _).note me (r + 1) = stepD sh n me r ((againUp S n k _).note me r) (fun o => if m = some o then .none else (againUp S n k _).note o r) ∧ ∀ o, o < n → m ≠ some o → r ≤ (againUp S n k _).done o
      simp only [dn, e2, e3]
      exact I.next me r m
    · show me < n → m ∈ (againUp S n k _).miss me → _
      rw [e2]
      exact I.miss me m
    · show me < n → r ≤ (againUp S n k _).done me → MemOk sh r ((againUp S n k _).note me r)
      rw [dn, e3]
      exact I.mem me r
    · show (againUp S n k _).bag.length ≤ 100 + 60 * (S.t + 1)
      have a := againUp_len (S := S) hn5 k (min (S.done k + 1) sh.rounds)
      have b := I.sz
      have c := hk.r
      omega
  | fall =>
    refine ⟨I.bag, fun me r o hK => ?_, I.done, I.first, I.next, I.miss, I.mem, Nat.le_trans I.sz (by show _ ≤ 100 + 60 * (S.t + 1); omega)⟩
    have hK : setN S.K k (fun _ _ => false) me r o = true := hK
    by_cases e : me = k
    · subst e
      rw [setN_same] at hK
      cases hK
    · rw [setN_ne e] at hK
      exact I.k _ _ _ hK
  | rise =>
    refine ⟨I.bag, fun me r o hK => ?_, I.done, I.first, I.next, I.miss, I.mem, Nat.le_trans I.sz (by show _ ≤ 100 + 60 * (S.t + 1); omega)⟩
    have hK : setN S.K k (fun _ _ => false) me r o = true := hK
    by_cases e : me = k
    · subst e
      rw [setN_same] at hK
      cases hK
    · rw [setN_ne e] at hK
      exact I.k _ _ _ hK
/-! ### runs by a pattern -/
def runD (sh : Sh) (n : Nat) (ins : List Int) (p : Nat → Nat → Option Nat) : Nat → Nat → PyData
  | 0, me => beginD sh me (ins.getD me 0)
  | r + 1, me => stepD sh n me r (runD sh n ins p r me) (fun o => if p r me = some o then .none else runD sh n ins p r o)
/-- the pattern tells what was missed so far -/
def Tells (S : NS) (n : Nat) (p : Nat → Nat → Option Nat) : Prop := ∀ me r m, me < n → (S.miss me)[r]? = some m → p r me = m
theorem run_note (I : InvS sh n ins S) {p : Nat → Nat → Option Nat} (hp : Tells S n p) : ∀ r me, me < n → r ≤ S.done me → runD sh n ins p r me = S.note me r
  | 0, me, hm, _ => (I.first me hm).symm
  | r + 1, me, hm, hr => by
    have h1 : r < (S.miss me).length := hr
    have e : (S.miss me)[r]? = some (S.miss me)[r] := by simp [h1]
    obtain ⟨a, b⟩ := I.next me r _ hm e
    have ep := hp me r _ hm e
    rw [a]
    show stepD sh n me r _ _ = _
    refine stepD_congr fun o ho => ?_
    rw [ep]
    by_cases z : (S.miss me)[r] = some o
    · rw [if_pos z, if_pos z]
    · rw [if_neg z, if_neg z]
      exact run_note I hp r o ho (b o ho z)
theorem run_mem (hk : sh.Ok) (hn : 0 < n) (hn5 : n ≤ 5) (hi : ∀ i, i < n → (ins.getD i 0).natAbs < 2 ^ 64) {p : Nat → Nat → Option Nat} : ∀ r me, me < n → r ≤ sh.rounds → MemOk sh r (runD sh n ins p r me)
  | 0, me, hm, _ => begin_ok (by omega) (hi me hm)
  | r + 1, me, hm, hr => step_ok hn hn5 (by omega) (by omega) hk fun o ho => by
    split
    · exact .inl rfl
    · exact .inr (run_mem hk hn hn5 hi r o ho (by omega))
/-- what a net answers -/
def answers (sh : Sh) (S : NS) (me : Nat) : Option Int := if S.done me = sh.rounds then ansD sh me (S.note me (S.done me)) else none
theorem done_do (me : Nat) {w : Wo} {k : Nat} : ∃ ms, (doS sh S n w k).miss me = S.miss me ++ ms := by
  have go : ∀ S2 : NS, S2.miss = S.miss → ∃ ms, S2.miss me = S.miss me ++ ms := fun S2 e => ⟨[], by rw [e]; simp⟩
  cases w with
  | come =>
    refine go (doS sh S n .come k) ?_
    show (comeS S k).miss = _
    unfold comeS
    split <;> rfl
  | double =>
    refine go (doS sh S n .double k) ?_
    show (doubleS S k).miss = _
    unfold doubleS
    split <;> rfl
  | go =>
    have e : (goneS sh S n k).miss me = S.miss me ++ (if me = k then [(lacksS S n k).head?] else []) := by
      show setN S.miss k _ me = _
      by_cases h : me = k
      · subst h
        rw [setN_same, if_pos rfl]
      · rw [setN_ne h, if_neg h]
        simp
    refine ⟨_, Eq.trans ?_ e⟩
    show (goS sh S n k).miss me = _
    unfold goS
    split <;> rfl
  | again => exact go _ (againUp_same S n k _).2.1
  | fall => exact go _ rfl
  | rise => exact go _ rfl
theorem stays_do {me k : Nat} {w : Wo} (hd : S.done me ≤ sh.rounds) (h : canS sh S n w (k : Int) = true) (ha : answers sh S me ≠ none) : answers sh (doS sh S n w k) me = answers sh S me := by
  have hr : S.done me = sh.rounds := by
    unfold answers at ha
    by_cases e : S.done me = sh.rounds
    · exact e
    · rw [if_neg e] at ha
      exact absurd rfl ha
  have go : ∀ S2 : NS, S2.miss me = S.miss me → S2.note me = S.note me → answers sh S2 me = answers sh S me := fun S2 e1 e2 => by
    unfold answers NS.done
    rw [e1, e2]
  cases w with
  | come =>
    have e : (doS sh S n .come k).miss = S.miss ∧ (doS sh S n .come k).note = S.note := by
      show (comeS S k).miss = _ ∧ (comeS S k).note = _
      unfold comeS
      split <;> exact ⟨rfl, rfl⟩
    exact go _ (by rw [e.1]) (by rw [e.2])
  | double =>
    have e : (doS sh S n .double k).miss = S.miss ∧ (doS sh S n .double k).note = S.note := by
      show (doubleS S k).miss = _ ∧ (doubleS S k).note = _
      unfold doubleS
      split <;> exact ⟨rfl, rfl⟩
    exact go _ (by rw [e.1]) (by rw [e.2])
  | go =>
    simp [canS] at h
    have ne : me ≠ k := fun z => by
      subst z
      omega
    have e : (goneS sh S n k).miss me = S.miss me ∧ (goneS sh S n k).note me = S.note me := ⟨setN_ne ne, setN_ne ne⟩
    refine go _ (Eq.trans ?_ e.1) (Eq.trans ?_ e.2)
    · show (goS sh S n k).miss me = _
      unfold goS
      split <;> rfl
    · show (goS sh S n k).note me = _
      unfold goS
      split <;> rfl
  | again => exact go _ (by show (againUp S n k _).miss me = _; rw [(againUp_same S n k _).2.1]) (by show (againUp S n k _).note me = _; rw [(againUp_same S n k _).2.2.1])
  | fall => exact go _ rfl rfl
  | rise => exact go _ rfl rfl
end
end Kn

set_option Elab.async false
set_option linter.all false
set_option maxRecDepth 100000
set_option maxHeartbeats 4000000
/-! What the walk takes from the head. -/
namespace Kn
open PySem PySem.Spec PyProof.Rows L2
structure TopW (W : Wd) : Prop where
  says : He.SaysD fa fn W.K
  hat : ∃ h : Heap, W.K.In h ∧ h.Ns mainGlobals W.mg
  ex : exf W.K = true
section
variable {W : Wd}
abbrev cF (W : Wd) : Addr := He.ga W.K "Folk"
abbrev cS (W : Wd) : Addr := He.ga W.K "State"
abbrev cN (W : Wd) : Addr := He.ga W.K "Net"
theorem cal_mk (T : TopW W) {d : He.DefD} {x : Str} {k : Nat} {sp : GS} {ps : List Str} (i j : Nat) (hi : fn[i]? = some d) (hj : fa[j]? = some (.glo x)) (hat : d.at_ = (x, none)) (h1 : d.dvs W.K = []) (h2 : d.kws W.K = [])
    (g : ∀ (f : Addr) (fd : FuncData), FunD W.K d.name d.qual d.params d.body d.scope [] [] f fd → FnG W k f fd ps sp ∧ Binds W.K fd ps []) : Cal W x k sp := by
  obtain ⟨h, X, G⟩ := T.hat
  obtain ⟨fd, F⟩ := T.says.def_ i hi
  rw [h1, h2, hat] at F
  obtain ⟨a, b⟩ := g _ _ F
  exact ⟨⟨_, fd, ps, a, He.glo_ok X G (T.says.fact j hj), F.kp, b⟩⟩
theorem met_mk (T : TopW W) {d : He.DefD} {x m : Str} {k : Nat} {sp : GS} {ps : List Str} (i j : Nat) (hi : fn[i]? = some d) (hj : fa[j]? = some (.meth x m)) (hat : d.at_ = (x, some m)) (h1 : d.dvs W.K = []) (h2 : d.kws W.K = [])
    (g : ∀ (f : Addr) (fd : FuncData), FunD W.K d.name d.qual d.params d.body d.scope [] [] f fd → FnG W k f fd ps sp ∧ Binds W.K fd ps []) : Met W (He.ga W.K x) m k sp := by
  obtain ⟨fd, F⟩ := T.says.def_ i hi
  rw [h1, h2, hat] at F
  obtain ⟨a, b⟩ := g _ _ F
  exact ⟨⟨_, fd, ps, a, He.meth_ok (T.says.fact j hj), b⟩⟩
theorem mak_mk (T : TopW W) {d : He.DefD} {x : Str} {k : Nat} {sp : GS} {ps : List Str} (i j jg : Nat) (hi : fn[i]? = some d) (hj : fa[j]? = some (.mkr x)) (hg : fa[jg]? = some (.glo x)) (hat : d.at_ = (x, some ("__init__" : Str))) (h1 : d.dvs W.K = []) (h2 : d.kws W.K = [])
    (g : ∀ (f : Addr) (fd : FuncData), FunD W.K d.name d.qual d.params d.body d.scope [] [] f fd → FnG W k f fd ps sp ∧ Binds W.K fd ps []) : Mak W x (He.ga W.K x) k sp := by
  obtain ⟨h, X, G⟩ := T.hat
  obtain ⟨fd, F⟩ := T.says.def_ i hi
  rw [h1, h2, hat] at F
  obtain ⟨a, b⟩ := g _ _ F
  exact ⟨⟨_, fd, ps, a, He.mkr_ok (T.says.fact j hj), He.glo_ok X G (T.says.fact jg hg), b⟩⟩
theorem TopW.cls_Folk (T : TopW W) : Cls W.K (He.ga W.K "Folk") := He.cls_ok (T.says.fact 58 (f := .cls "Folk") rfl)
theorem TopW.cls_State (T : TopW W) : Cls W.K (He.ga W.K "State") := He.cls_ok (T.says.fact 61 (f := .cls "State") rfl)
theorem TopW.cls_Net (T : TopW W) : Cls W.K (He.ga W.K "Net") := He.cls_ok (T.says.fact 64 (f := .cls "Net") rfl)
theorem TopW.free_len (T : TopW W) : W.mg "len" = none := by
  obtain ⟨h, X, G⟩ := T.hat
  exact He.free_ok X G (T.says.fact 66 (f := .free "len") rfl)
theorem TopW.free_range (T : TopW W) : W.mg "range" = none := by
  obtain ⟨h, X, G⟩ := T.hat
  exact He.free_ok X G (T.says.fact 67 (f := .free "range") rfl)
theorem TopW.free_isinstance (T : TopW W) : W.mg "isinstance" = none := by
  obtain ⟨h, X, G⟩ := T.hat
  exact He.free_ok X G (T.says.fact 68 (f := .free "isinstance") rfl)
theorem TopW.free_int (T : TopW W) : W.mg "int" = none := by
  obtain ⟨h, X, G⟩ := T.hat
  exact He.free_ok X G (T.says.fact 69 (f := .free "int") rfl)
theorem TopW.free_bool (T : TopW W) : W.mg "bool" = none := by
  obtain ⟨h, X, G⟩ := T.hat
  exact He.free_ok X G (T.says.fact 70 (f := .free "bool") rfl)
theorem TopW.free_tuple (T : TopW W) : W.mg "tuple" = none := by
  obtain ⟨h, X, G⟩ := T.hat
  exact He.free_ok X G (T.says.fact 71 (f := .free "tuple") rfl)
theorem TopW.free_list (T : TopW W) : W.mg "list" = none := by
  obtain ⟨h, X, G⟩ := T.hat
  exact He.free_ok X G (T.says.fact 72 (f := .free "list") rfl)
theorem TopW.free_dict (T : TopW W) : W.mg "dict" = none := by
  obtain ⟨h, X, G⟩ := T.hat
  exact He.free_ok X G (T.says.fact 73 (f := .free "dict") rfl)
theorem TopW.free_str (T : TopW W) : W.mg "str" = none := by
  obtain ⟨h, X, G⟩ := T.hat
  exact He.free_ok X G (T.says.fact 74 (f := .free "str") rfl)
theorem TopW.free_all (T : TopW W) : W.mg "all" = none := by
  obtain ⟨h, X, G⟩ := T.hat
  exact He.free_ok X G (T.says.fact 75 (f := .free "all") rfl)
theorem TopW.free_enumerate (T : TopW W) : W.mg "enumerate" = none := by
  obtain ⟨h, X, G⟩ := T.hat
  exact He.free_ok X G (T.says.fact 76 (f := .free "enumerate") rfl)
theorem TopW.free_abs (T : TopW W) : W.mg "abs" = none := by
  obtain ⟨h, X, G⟩ := T.hat
  exact He.free_ok X G (T.says.fact 77 (f := .free "abs") rfl)
theorem TopW.free_repr (T : TopW W) : W.mg "repr" = none := by
  obtain ⟨h, X, G⟩ := T.hat
  exact He.free_ok X G (T.says.fact 78 (f := .free "repr") rfl)
theorem TopW.free_min (T : TopW W) : W.mg "min" = none := by
  obtain ⟨h, X, G⟩ := T.hat
  exact He.free_ok X G (T.says.fact 79 (f := .free "min") rfl)
theorem TopW.gint_LEAST_MANY (T : TopW W) : ∃ t, W.mg "LEAST_MANY" = some (.int 3 t) := by
  obtain ⟨h, X, G⟩ := T.hat
  exact He.int_ok X G (T.says.fact 80 (f := .int "LEAST_MANY" 3) rfl)
theorem TopW.gint_MOST_MANY (T : TopW W) : ∃ t, W.mg "MOST_MANY" = some (.int 5 t) := by
  obtain ⟨h, X, G⟩ := T.hat
  exact He.int_ok X G (T.says.fact 81 (f := .int "MOST_MANY" 5) rfl)
theorem TopW.gint_MOST_ROUNDS (T : TopW W) : ∃ t, W.mg "MOST_ROUNDS" = some (.int 30 t) := by
  obtain ⟨h, X, G⟩ := T.hat
  exact He.int_ok X G (T.says.fact 82 (f := .int "MOST_ROUNDS" 30) rfl)
theorem TopW.gtup_WORDS_OF_LETTERS (T : TopW W) : W.mg "WORDS_OF_LETTERS" = some (.ref (He.ga W.K "WORDS_OF_LETTERS")) := by
  obtain ⟨h, X, G⟩ := T.hat
  exact He.glo_ok X G (T.says.fact 83 (f := .glo "WORDS_OF_LETTERS") rfl)
theorem TopW.gtup_WORDS_OF_MACHINES (T : TopW W) : W.mg "WORDS_OF_MACHINES" = some (.ref (He.ga W.K "WORDS_OF_MACHINES")) := by
  obtain ⟨h, X, G⟩ := T.hat
  exact He.glo_ok X G (T.says.fact 84 (f := .glo "WORDS_OF_MACHINES") rfl)
theorem TopW.noat_Folk_rounds (T : TopW W) : NoAttr W.K (He.ga W.K "Folk") "rounds" := He.noat_ok (T.says.fact 85 (f := .noat "Folk" "rounds") rfl)
theorem TopW.noat_Folk_kept_begin (T : TopW W) : NoAttr W.K (He.ga W.K "Folk") "kept_begin" := He.noat_ok (T.says.fact 86 (f := .noat "Folk" "kept_begin") rfl)
theorem TopW.noat_Folk_kept_step (T : TopW W) : NoAttr W.K (He.ga W.K "Folk") "kept_step" := He.noat_ok (T.says.fact 87 (f := .noat "Folk" "kept_step") rfl)
theorem TopW.noat_Folk_kept_answer (T : TopW W) : NoAttr W.K (He.ga W.K "Folk") "kept_answer" := He.noat_ok (T.says.fact 88 (f := .noat "Folk" "kept_answer") rfl)
theorem TopW.noat_State_folk (T : TopW W) : NoAttr W.K (He.ga W.K "State") "folk" := He.noat_ok (T.says.fact 89 (f := .noat "State" "folk") rfl)
theorem TopW.noat_State_inputs (T : TopW W) : NoAttr W.K (He.ga W.K "State") "inputs" := He.noat_ok (T.says.fact 90 (f := .noat "State" "inputs") rfl)
theorem TopW.noat_State_bag (T : TopW W) : NoAttr W.K (He.ga W.K "State") "bag" := He.noat_ok (T.says.fact 91 (f := .noat "State" "bag") rfl)
theorem TopW.noat_State_are_up (T : TopW W) : NoAttr W.K (He.ga W.K "State") "are_up" := He.noat_ok (T.says.fact 92 (f := .noat "State" "are_up") rfl)
theorem TopW.noat_State_notes (T : TopW W) : NoAttr W.K (He.ga W.K "State") "notes" := He.noat_ok (T.says.fact 93 (f := .noat "State" "notes") rfl)
theorem TopW.noat_State_missed (T : TopW W) : NoAttr W.K (He.ga W.K "State") "missed" := He.noat_ok (T.says.fact 94 (f := .noat "State" "missed") rfl)
theorem TopW.noat_State_kept (T : TopW W) : NoAttr W.K (He.ga W.K "State") "kept" := He.noat_ok (T.says.fact 95 (f := .noat "State" "kept") rfl)
theorem TopW.noat_Net_kept_state (T : TopW W) : NoAttr W.K (He.ga W.K "Net") "kept_state" := He.noat_ok (T.says.fact 96 (f := .noat "Net" "kept_state") rfl)
theorem TopW.tup_l (T : TopW W) (H : Hp) : SqT W.K H (He.ga W.K "WORDS_OF_LETTERS") [V.str "come", V.str "double"] :=
  He.tupB_ok (Bool.and_eq_true _ _ ▸ T.ex : _ ∧ _).1 H
theorem TopW.tup_m (T : TopW W) (H : Hp) : SqT W.K H (He.ga W.K "WORDS_OF_MACHINES") [V.str "go", V.str "fall", V.str "rise", V.str "again"] :=
  He.tupB_ok (Bool.and_eq_true _ _ ▸ T.ex : _ ∧ _).2 H
end
end Kn

set_option Elab.async false
set_option linter.all false
set_option maxRecDepth 100000
set_option maxHeartbeats 4000000
/-! Rules in short; what a reading evaluates to, told by predicates that grow with the heap. -/
namespace Kn
open PySem PySem.Spec PyProof.Rows L2 Evl
/-! ### rules in short -/
section
variable {X : Cx} {a b o e : Expr} {es : List Expr} {ta tb : TE} {t : TA} {pos apos : Pos}
theorem pe_gint {x : Str} {i : Int} (h : ∃ t, X.mg x = some (.int i t)) (hx : Gl X x) (hd : (x == ("__debug__" : Str)) = false) : PE X (.Name x pos) (tC (.int i)) := by
  obtain ⟨t, h⟩ := h
  exact pe_glob hx h ⟨t, rfl⟩ hd
theorem pe_gtup {x : Str} {c : Addr} (h : X.mg x = some (.ref c)) (hx : Gl X x) (hd : (x == ("__debug__" : Str)) = false) : PE X (.Name x pos) (tC (.ref c)) := pe_glob hx h rfl hd
theorem pe_ty {x : Str} {n : String} (hm : X.mg x = none) (hx : Gl X x) (hd : (x == ("__debug__" : Str)) = false) (hv : bootBuiltins x = some (.type n)) (hn : x ≠ "__name__" := by decide) : PE X (.Name x pos) (tC (.ty n)) := pe_bltn hx hm hv rfl hn hd
theorem pe_ixl (ha : PE X a ta) (hb : PE X b tb) (hs : PlainIx b) : PE X (.Subscript a b pos) (tOp (rIxL X.K) ta tb) := pe_ix ix_list ha hb hs
theorem pe_ixt (ha : PE X a ta) (hb : PE X b tb) (hs : PlainIx b) : PE X (.Subscript a b pos) (tOp (rIxT X.K) ta tb) := pe_ix ix_tup ha hb hs
def rTupS (K : PySem.W.Frag) : List V → Hp → VK → Prop := fun xs H Q => ∃ p ys, xs = [.ref p] ∧ ((SqL K H p ys ∧ ∀ l, H l = none → Q (.ref l) (upd H l (.tup ys))) ∨ (SqT K H p ys ∧ Q (.ref p) H))
def rInt1 : List V → Hp → VK → Prop := fun xs H Q => (∃ i, xs = [.int i] ∧ Q (.int i) H) ∨ ∃ k, xs = [.bl k] ∧ Q (.int (if k then 1 else 0)) H
theorem cr_int1 : CallR X (.type "int") rInt1 := call_int1
def rAbs : List V → Hp → VK → Prop := fun xs H Q => ∃ i, xs = [.int i] ∧ Q (.int (if i < 0 then -i else i)) H
theorem cr_abs : CallR X (.builtin "abs") rAbs := call_abs
def rMin2 : List V → Hp → VK → Prop := fun xs H Q => ∃ i j, xs = [.int i, .int j] ∧ Q (.int (if j < i then j else i)) H
theorem cr_min2 (hc : X.calm = true) : CallR X (.builtin "min") rMin2 := call_min2 hc
def rLenStr : List V → Hp → VK → Prop := fun xs H Q => ∃ z : Str, xs = [.str z] ∧ z.length ≤ sizeLine ∧ Q (.int z.length) H
theorem cr_lenStr : CallR X (.builtin "len") rLenStr := call_len_str
def rIsN : R2 := fun x y H Q => y = .non ∧ Q (.bl (decide (x = .non))) H
theorem op_isNq : OpR X (compareOp .Is) rIsN := op_isN
theorem cr_len : CallR X (.builtin "len") (rLenS X.K) := call_len_seq
theorem cr_list : CallR X (.type "list") (rListS X.K) := call_list_of
theorem cr_tup : CallR X (.type "tuple") (rTupS X.K) := call_tuple_of
theorem cr_is : CallR X (.builtin "isinstance") (rIsi X.K) := call_isi
theorem cr_allq (hc : X.calm = true) : CallR X (.builtin "all") (rAll X.K) := cr_all hc
theorem cr_repr {k : Nat} (hg : X.A.guards = some []) (hr : Room k X.A) : CallR X (.builtin "repr") (KnM.rRepr X.K) := KnM.call_repr hg hr.units
end
section
variable {X : Cx} {K : PySem.W.Frag} {a b o e tg iter : Expr} {es : List Expr} {ta tb te tl : TE} {t : TA} {pos apos p2 : Pos} {f : Str}
theorem pe_fldk (hK : X.K = K) (he : PE X e ta) (hb : attributeBase e f X.env (eval e X.env) = eval e X.env) : PE X (.Attribute e f pos) (tFld K ta f) := hK ▸ pe_fld he hb
theorem pg_tupk {k n : Nat} {t : TGs} (hK : X.K = K) (hc : X.calm = true) (h : PGs X es t) (hn : (assignEach es X.env).length = n) (hst : (assignEach es X.env).findIdx? (·.1) = none := by rfl) : PG X (.Tuple es k pos) (gTup K n t) := hK ▸ pg_tup hc h hn hst
theorem pe_ixlk (hK : X.K = K) (ha : PE X a ta) (hb : PE X b tb) (hs : PlainIx b) : PE X (.Subscript a b pos) (tOp (rIxL K) ta tb) := hK ▸ pe_ixl ha hb hs
theorem pe_ixtk (hK : X.K = K) (ha : PE X a ta) (hb : PE X b tb) (hs : PlainIx b) : PE X (.Subscript a b pos) (tOp (rIxT K) ta tb) := hK ▸ pe_ixt ha hb hs
theorem cr_lenk (hK : X.K = K) : CallR X (.builtin "len") (rLenS K) := hK ▸ cr_len
theorem cr_listk (hK : X.K = K) : CallR X (.type "list") (rListS K) := hK ▸ cr_list
theorem cr_tupk (hK : X.K = K) : CallR X (.type "tuple") (rTupS K) := hK ▸ cr_tup
theorem cr_isk (hK : X.K = K) : CallR X (.builtin "isinstance") (rIsi K) := hK ▸ cr_is
theorem cr_isFk (hK : X.K = K) : CallR X (.builtin "isinstance") (rIsF K) := hK ▸ call_isF
theorem cr_allk (hK : X.K = K) (hc : X.calm = true) : CallR X (.builtin "all") (rAll K) := hK ▸ cr_all hc
theorem cr_reprk {k : Nat} (hK : X.K = K) (hg : X.A.guards = some []) (hr : Room k X.A) : CallR X (.builtin "repr") (KnM.rRepr K) := hK ▸ cr_repr hg hr
theorem op_niSk (hK : X.K = K) : OpR X (compareOp .NotIn) (rIn K true) := hK ▸ op_notIn_seq
theorem op_inSk (hK : X.K = K) : OpR X (compareOp .In) (rIn K false) := hK ▸ op_in_seq
theorem op_eqDk (hK : X.K = K) (hu : X.A.units + 64 < cLine) : OpR X (compareOp .Eq) (rEqD K) := hK ▸ op_eqD hu
theorem pi_enumk {p tpos : Pos} {elts : List Expr} {kk : Nat} (hK : X.K = K) (hg : Gl X "enumerate") (hm : X.mg "enumerate" = none) (ha : PA X [e] t) (hs : starEach [e] X.env = [(false, eval e X.env)] := by rfl) :
    PI X (.Tuple elts kk tpos) (.Call (.Name "enumerate" p) [e] [] pos) (KnE.iEnumT K t) := hK ▸ KnE.pi_enumT hg hm ha hs
theorem pi_tupk {l : Expr} (hK : X.K = K) (hl : PE X l tl) : PI X tg l (iTup K tl) := hK ▸ pi_tup hl
theorem pi_listk {l : Expr} (hK : X.K = K) (hl : PE X l tl) : PI X tg l (iList K tl) := hK ▸ pi_list hl
theorem pe_fnk {W : Wd} {k j : Nat} {m : Str} {sp : GS} {L : LD} {q y : Str} {pl : Sem Bool} (hK : X.K = K) (he : PE X o ta) (d : LamK W L q y k sp) (hW : wdOf X = W) (rm : Room j X.A) (hk : k ≤ j) (hg : X.A.guards = some []) (ha : PA X (e :: es) t)
    (hst : starEach (e :: es) X.env = (false, eval e X.env) :: starEach es X.env := by rfl) (hpl : (backTo pos (starEach es X.env)).any (·.1) = false := by rfl)
    (ht : eval (.Call (.Attribute o m apos) (e :: es) [] pos) X.env = (do
      let ov ← eval o X.env
      standAt apos.atName
      let (f, first) ← holding [ov] (getMethod ov m pl)
      callWith pos f first (backTo pos (starEach (e :: es) X.env)) (backToKw pos (keywordEach [] X.env))) := by rfl) :
    PE X (.Call (.Attribute o m apos) (e :: es) [] pos) (tFn K m L q y sp ta t) := hK ▸ pe_fn he d hW rm hk hg ha hst hpl ht
theorem sl_tupk (hK : X.K = K) : SlR X (rSlA K) := hK ▸ sl_tupA
theorem sl_listk (hK : X.K = K) : SlR X (rSlL K) := hK ▸ sl_list
end
/-! ### attributes -/
theorem lk_hit {f : Str} {v : V} {fs : List (Str × V)} : (putF f v fs).lookup f = some v := by rw [lookup_putF, if_pos rfl]
theorem lk_miss {f g : Str} {v : V} {fs : List (Str × V)} {o : Option V} (h : ¬ g = f) (k : fs.lookup g = o) : (putF f v fs).lookup g = o := by rw [lookup_putF, if_neg h]; exact k
theorem len_putF {f : Str} {v : V} : ∀ fs : List (Str × V), (putF f v fs).length ≤ fs.length + 1
  | [] => Nat.le_refl _
  | (g, u) :: fs => by
    have h := len_putF (f := f) (v := v) fs
    simp only [putF]
    split <;> simp <;> omega
theorem lenP {f : Str} {v : V} {k : Nat} {fs : List (Str × V)} (h : fs.length ≤ k) : (putF f v fs).length ≤ k + 1 := Nat.le_trans (len_putF fs) (Nat.succ_le_succ h)
theorem atI_neg1 {α : Type} {xs : List α} {n : Nat} {v : α} (h : xs.length = n + 1) (hv : xs[n]? = some v) : atI xs (-1) = some v := by
  have e1 : ixN xs.length (-1) = some n := by
    unfold ixN
    rw [if_neg (by decide), if_pos (by omega), h]
    congr 1
    omega
  unfold atI
  rw [e1]
  exact hv
/-! ### heaps -/
theorem ex_ref {H : Hp} : Ex H H := Ex.refl H
/-- but for M all is kept -/
def Fr (M : Addr → Prop) (H H' : Hp) : Prop := ∀ a o, H a = some o → ¬ M a → H' a = some o
theorem Fr.ex {M : Addr → Prop} {H H' : Hp} (e : Ex H H') : Fr M H H' := fun a o h _ => e a o h
theorem Fr.trans {M : Addr → Prop} {H H1 H2 : Hp} (a : Fr M H H1) (b : Fr M H1 H2) : Fr M H H2 := fun x o h n => b x o (a x o h n) n
theorem Fr.mono {M M2 : Addr → Prop} {H H' : Hp} (a : Fr M H H') (h : ∀ x, M x → M2 x) : Fr M2 H H' := fun x o e n => a x o e fun z => n (h x z)
/-- the tuples are kept -/
def FrT (H H' : Hp) : Prop := ∀ a xs, H a = some (.tup xs) → H' a = some (.tup xs)
theorem FrT.refl {H : Hp} : FrT H H := fun _ _ h => h
theorem FrT.trans {H H1 H2 : Hp} (a : FrT H H1) (b : FrT H1 H2) : FrT H H2 := fun x o h => b x o (a x o h)
theorem Ex.frT {H H' : Hp} (e : Ex H H') : FrT H H' := fun a xs h => e a _ h
theorem Fr.frT {M : Addr → Prop} {H H' : Hp} (e : Fr M H H') (h : ∀ a xs, H a = some (.tup xs) → ¬ M a) : FrT H H' := fun a xs q => e a _ q (h a xs q)
theorem FrT.new {H : Hp} {p : Addr} {o : HO} (h : ∀ xs, H p ≠ some (.tup xs)) : FrT H (upd H p o) := fun a xs q => by
  rw [upd_ne]
  · exact q
  · intro e
    rw [e] at q
    exact h _ q
/-! ### data: numbers, truths, none, texts, and tuples of these -/
mutual
inductive IsD (H : Hp) : V → PyData → Prop
  | non : IsD H .non .none
  | bl (b : Bool) : IsD H (.bl b) (.bool b)
  | int (i : Int) : IsD H (.int i) (.int i)
  | str (x : Str) : IsD H (.str x) (.str x)
  | tup {a : Addr} {xs : List V} {ds : List PyData} : H a = some (.tup xs) → IsDs H xs ds → IsD H (.ref a) (.tuple ds)
inductive IsDs (H : Hp) : List V → List PyData → Prop
  | nil : IsDs H [] []
  | cons {v : V} {vs : List V} {d : PyData} {ds : List PyData} : IsD H v d → IsDs H vs ds → IsDs H (v :: vs) (d :: ds)
end
mutual
theorem IsD.up {H H' : Hp} (e : FrT H H') : ∀ {v : V} {d : PyData}, IsD H v d → IsD H' v d
  | _, _, .non => .non
  | _, _, .bl b => .bl b
  | _, _, .int i => .int i
  | _, _, .str x => .str x
  | _, _, .tup h q => .tup (e _ _ h) (IsDs.up e q)
theorem IsDs.up {H H' : Hp} (e : FrT H H') : ∀ {vs : List V} {ds : List PyData}, IsDs H vs ds → IsDs H' vs ds
  | _, _, .nil => .nil
  | _, _, .cons h q => .cons (IsD.up e h) (IsDs.up e q)
end
mutual
theorem IsD.dp {K : PySem.W.Frag} {H : Hp} : ∀ {v : V} {d : PyData}, IsD H v d → Dp K H v d
  | _, _, .non => .non
  | _, _, .bl b => .bl b
  | _, _, .int i => .int i
  | _, _, .str x => .str x
  | _, _, .tup h q => .tup (st_of h) (IsDs.dp q)
theorem IsDs.dp {K : PySem.W.Frag} {H : Hp} : ∀ {vs : List V} {ds : List PyData}, IsDs H vs ds → DpAll K H vs ds
  | _, _, .nil => .nil
  | _, _, .cons h q => .cons (IsD.dp h) (IsDs.dp q)
end
theorem IsD.ex {H H' : Hp} {v : V} {d : PyData} (h : IsD H v d) (e : Ex H H') : IsD H' v d := h.up (Ex.frT e)
theorem IsDs.ex {H H' : Hp} {v : List V} {d : List PyData} (h : IsDs H v d) (e : Ex H H') : IsDs H' v d := h.up (Ex.frT e)
theorem IsDs.length {H : Hp} : ∀ {vs : List V} {ds : List PyData}, IsDs H vs ds → vs.length = ds.length
  | _, _, .nil => rfl
  | _, _, .cons _ q => congrArg (· + 1) q.length
theorem IsDs.get {H : Hp} : ∀ {vs : List V} {ds : List PyData}, IsDs H vs ds → ∀ {i : Nat} {d : PyData}, ds[i]? = some d → ∃ v, vs[i]? = some v ∧ IsD H v d
  | _, _, .nil, i, d, h => by simp at h
  | _, _, .cons h q, 0, d, e => by simp at e; exact ⟨_, rfl, e ▸ h⟩
  | _, _, .cons h q, i + 1, d, e => by simp at e; exact q.get e
theorem IsDs.snoc {H : Hp} {v : V} {d : PyData} (hd : IsD H v d) : ∀ {vs : List V} {ds : List PyData}, IsDs H vs ds → IsDs H (vs ++ [v]) (ds ++ [d])
  | _, _, .nil => .cons hd .nil
  | _, _, .cons h q => .cons h (IsDs.snoc hd q)
theorem isDs_of {H : Hp} : ∀ {vs : List V} {ds : List PyData}, vs.length = ds.length → (∀ (i : Nat) (v : V) (d : PyData), vs[i]? = some v → ds[i]? = some d → IsD H v d) → IsDs H vs ds
  | [], [], _, _ => .nil
  | [], _ :: _, h, _ => by simp at h
  | _ :: _, [], h, _ => by simp at h
  | v :: vs, d :: ds, h, k => .cons (k 0 v d rfl rfl) (isDs_of (by simpa using h) fun i v d a b => k (i + 1) v d (by simpa using a) (by simpa using b))
def oV : Option Nat → V
  | none => .non
  | some i => .int (i : Nat)
def oD : Option Nat → PyData
  | none => .none
  | some i => .int (i : Nat)
def iV : Option Int → V
  | none => .non
  | some i => .int i
def iD : Option Int → PyData
  | none => .none
  | some i => .int i
theorem isD_o {H : Hp} (m : Option Nat) : IsD H (oV m) (oD m) := by cases m <;> constructor
theorem isD_i {H : Hp} (m : Option Int) : IsD H (iV m) (iD m) := by cases m <;> constructor
theorem isDs_map {α : Type} {H : Hp} {f : α → V} {g : α → PyData} (h : ∀ x, IsD H (f x) (g x)) : ∀ xs : List α, IsDs H (xs.map f) (xs.map g)
  | [] => .nil
  | x :: xs => .cons (h x) (isDs_map h xs)
/-! ### a predicate of a value that stays while the tuples stay -/
structure MP where
  p : V → Hp → Prop
  up : ∀ {v : V} {H H' : Hp}, FrT H H' → p v H → p v H'
structure MPs where
  p : List V → Hp → Prop
  up : ∀ {v : List V} {H H' : Hp}, FrT H H' → p v H → p v H'
def MP.eq (x : V) : MP := ⟨fun v _ => v = x, fun _ h => h⟩
def MP.tupX (xs : List V) : MP := ⟨fun v H => ∃ a, v = .ref a ∧ H a = some (.tup xs), fun e ⟨a, h1, h2⟩ => ⟨a, h1, e _ _ h2⟩⟩
def MP.isD (d : PyData) : MP := ⟨fun v H => IsD H v d, fun e h => h.up e⟩
def MP.tup (n : Nat) (P : Nat → MP) : MP := ⟨fun v H => ∃ (a : Addr) (vs : List V), v = .ref a ∧ H a = some (.tup vs) ∧ vs.length = n ∧ ∀ (i : Nat) (v : V), vs[i]? = some v → (P i).p v H, fun e ⟨a, vs, h1, h2, h3, h4⟩ => ⟨a, vs, h1, e _ _ h2, h3, fun i v q => (P i).up e (h4 i v q)⟩⟩
def MPs.nil : MPs := ⟨fun vs _ => vs = [], fun _ h => h⟩
def MPs.cons (P : MP) (R : MPs) : MPs := ⟨fun vs H => ∃ v r, vs = v :: r ∧ P.p v H ∧ R.p r H, fun e ⟨v, r, h1, h2, h3⟩ => ⟨v, r, h1, P.up e h2, R.up e h3⟩⟩
/-- a list at a whose items are told -/
def LstP (n : Nat) (P : Nat → MP) (v : V) (H : Hp) : Prop := ∃ (a : Addr) (vs : List V), v = .ref a ∧ H a = some (.lst vs) ∧ vs.length = n ∧ ∀ (i : Nat) (v : V), vs[i]? = some v → (P i).p v H
def LstX (xs : List V) (v : V) (H : Hp) : Prop := ∃ a, v = .ref a ∧ H a = some (.lst xs)
abbrev VP := V → Hp → Prop
def EvP (te : TE) (σ : L2.St) (H : Hp) (P : VP) : Prop := ∀ H1, Ex H H1 → ∀ Q : VK, (∀ v H2, Ex H1 H2 → P v H2 → Q v H2) → te σ H1 Q
def EvAP (ta : TA) (σ : L2.St) (H : Hp) (P : List V → Hp → Prop) : Prop := ∀ H1, Ex H H1 → ∀ Q : List V → Hp → Prop, (∀ vs H2, Ex H1 H2 → P vs H2 → Q vs H2) → ta σ H1 Q
/-- what a promise gives back: a value, told by a predicate; all is kept -/
def Ret (P : VP) (H : Hp) (Q : VK) : Prop := ∀ v H2, Ex H H2 → P v H2 → Q v H2
section
variable {K : PySem.W.Frag} {σ : L2.St} {H H' : Hp} {ta tb te tx : TE} {t u : TT} {x y z v : V} {r : R2} {P R : VP} {M : MP} {Ms : MPs} {Ps : List V → Hp → Prop} {D : Ends} {tz tu tw : TS} {tx2 : TA}
theorem EvP.mono (e : Ex H H') (h : EvP te σ H P) : EvP te σ H' P := fun H1 a Q q => h H1 (e.trans a) Q q
theorem EvP.imp (h : EvP te σ H P) (k : ∀ v H', Ex H H' → P v H' → R v H') : EvP te σ H R := fun H1 a Q q => h H1 a Q fun v H2 e p => q v H2 e (k v H2 (a.trans e) p)
theorem ep_ev (h : Ev te σ H v) : EvP te σ H (MP.eq v).p := fun H1 a Q q => h H1 a Q fun H2 e => q v H2 e rfl
theorem ep_is (h : Ev te σ H v) (k : ∀ H', Ex H H' → P v H') : EvP te σ H P := fun H1 a Q q => h H1 a Q fun H2 e => q v H2 e (k H2 (a.trans e))
theorem ep_U {xs : List V} (h : EvU te σ H xs) : EvP te σ H (MP.tupX xs).p := fun H1 a Q q => h H1 a Q fun p H2 _ e hp => q _ H2 e ⟨p, rfl, hp⟩
theorem ep_L {xs : List V} (h : EvL te σ H xs) : EvP te σ H (LstX xs) := fun H1 a Q q => h H1 a Q fun p H2 _ e hp => q _ H2 e ⟨p, rfl, hp⟩
theorem ep_eq (h : EvP te σ H (MP.eq v).p) : Ev te σ H v := fun H1 a Q q => h H1 a Q fun w H2 e p => by
  have p : w = v := p
  subst p
  exact q H2 e
theorem eap_nil : EvAP tNil σ H MPs.nil.p := fun H1 _ _ q => q [] H1 (Ex.refl H1) rfl
theorem eap_cons {tr : TA} (h : EvP ta σ H M.p) (hr : EvAP tr σ H Ms.p) : EvAP (tCons ta tr) σ H (MPs.cons M Ms).p := fun H1 e _ q =>
  h H1 e _ fun x H2 e2 p => hr H2 (e.trans e2) _ fun vs H3 e3 pr => q _ H3 (e2.trans e3) ⟨x, vs, rfl, M.up (Ex.frT e3) p, pr⟩
theorem eap_ev {ta : TA} {vs : List V} (h : EvA ta σ H vs) : EvAP ta σ H (fun ws _ => ws = vs) := fun H1 e _ q => h H1 e _ fun H2 e2 => q vs H2 e2 rfl
/-- a call: its promise from its arguments -/
theorem ep_call {sp : GS} {ta : TA} (h : EvAP ta σ H Ps) (k : ∀ vs H1, Ex H H1 → Ps vs H1 → ∀ Q, Ret P H1 Q → sp vs H1 Q) : EvP (tCal sp ta) σ H P := fun H1 e Q q =>
  h H1 e _ fun vs H2 e2 p => k vs H2 (e.trans e2) p Q fun v H3 e3 p3 => q v H3 (e2.trans e3) p3
theorem ep_cal {sp : GS} {ta : TA} {vs : List V} (h : EvA ta σ H vs) (k : ∀ H1, Ex H H1 → ∀ Q, Ret P H1 Q → sp vs H1 Q) : EvP (tCal sp ta) σ H P := fun H1 e Q q =>
  h H1 e _ fun H2 e2 => k H2 (e.trans e2) Q fun v H3 e3 p3 => q v H3 (e2.trans e3) p3
theorem ev_cal {sp : GS} {ta : TA} {vs : List V} (h : EvA ta σ H vs) (k : ∀ H1, Ex H H1 → ∀ Q : VK, (∀ H2, Ex H1 H2 → Q v H2) → sp vs H1 Q) : Ev (tCal sp ta) σ H v := fun H1 e Q q =>
  h H1 e _ fun H2 e2 => k H2 (e.trans e2) Q fun H3 e3 => q H3 (e2.trans e3)
theorem ep_cb {rr : List V → Hp → VK → Prop} {ta : TA} (h : EvAP ta σ H Ps) (k : ∀ vs H1, Ex H H1 → Ps vs H1 → ∀ Q, Ret P H1 Q → rr vs H1 Q) : EvP (tCB rr ta) σ H P := fun H1 e Q q =>
  h H1 e _ fun vs H2 e2 p => k vs H2 (e.trans e2) p Q fun v H3 e3 p3 => q v H3 (e2.trans e3) p3
theorem ep_if {b : Bool} (h : EvT t σ H b) (h1 : b = true → EvP ta σ H P) (h2 : b = false → EvP tb σ H P) : EvP (tIf t ta tb) σ H P := fun H1 e Q q => h H1 e _ fun H2 e2 => by
  cases b with
  | true => exact iteT (h1 rfl H2 (e.trans e2) Q fun v H3 e3 p => q v H3 (e2.trans e3) p)
  | false => exact iteF (h2 rfl H2 (e.trans e2) Q fun v H3 e3 p => q v H3 (e2.trans e3) p)
theorem ep_orV {a : Bool} (h1 : Ev ta σ H (.bl a)) (h2 : a = false → EvP tb σ H P) (h3 : a = true → ∀ H', Ex H H' → P (.bl true) H') : EvP (tOrV ta tb) σ H P := fun H1 e Q q => h1 H1 e _ fun H2 e2 => ⟨a, rfl, by
  cases a with
  | true => exact iteT (q _ H2 e2 (h3 rfl H2 (e.trans e2)))
  | false => exact iteF (h2 rfl H2 (e.trans e2) Q fun v H3 e3 p => q v H3 (e2.trans e3) p)⟩
/-- len, tuple(..), list(..) of one that is told by a predicate -/
theorem ev_lenT {p : Addr} {xs : List V} (ha : Ev ta σ H (.ref p)) (h : SqT K H p xs) : Ev (tCB (rLenS K) (tCons ta tNil)) σ H (.int (xs.length : Int)) := fun H1 e Q q =>
  ha H1 e _ fun H2 e2 => ⟨p, xs, rfl, .inr (ex_t (e.trans e2) h), q H2 e2⟩
theorem ep_tupOf {n : Nat} {Pi : Nat → MP} (h : EvP ta σ H (LstP n Pi)) : EvP (tCB (rTupS K) (tCons ta tNil)) σ H (MP.tup n Pi).p := fun H1 e Q q =>
  h H1 e _ fun v H2 e2 ⟨a, vs, h1, h2, h3, h4⟩ => by
    subst h1
    refine ⟨a, vs, rfl, .inl ⟨sq_of h2, fun l hl => ?_⟩⟩
    have ex : Ex H2 (upd H2 l (.tup vs)) := Ex.new hl
    exact q _ _ (e2.trans ex) ⟨l, vs, rfl, upd_same, h3, fun i v z => (Pi i).up (Ex.frT ex) (h4 i v z)⟩
theorem eu_tupL {p : Addr} {xs : List V} (ha : Ev ta σ H (.ref p)) (h : SqL K H p xs) : EvU (tCB (rTupS K) (tCons ta tNil)) σ H xs := fun H1 e Q q =>
  ha H1 e _ fun H2 e2 => ⟨p, xs, rfl, .inl ⟨ex_l (e.trans e2) h, fun l hl => q l _ (fresh_back e2 hl) (e2.trans (Ex.new hl)) upd_same⟩⟩
theorem eu_tupNL {xs : List V} (ha : EvL ta σ H xs) : EvU (tCB (rTupS K) (tCons ta tNil)) σ H xs := fun H1 e Q q =>
  ha H1 e _ fun p H2 _ e2 hp => ⟨p, xs, rfl, .inl ⟨sq_of hp, fun l hl => q l _ (fresh_back e2 hl) (e2.trans (Ex.new hl)) upd_same⟩⟩
theorem ev_int {i : Int} (h : Ev ta σ H (.int i)) : Ev (tCB rInt1 (tCons ta tNil)) σ H (.int i) := fun H1 e Q q => h H1 e _ fun H2 e2 => .inl ⟨i, rfl, q H2 e2⟩
theorem ev_abs {i : Int} (h : Ev ta σ H (.int i)) : Ev (tCB rAbs (tCons ta tNil)) σ H (.int (if i < 0 then -i else i)) := fun H1 e Q q => h H1 e _ fun H2 e2 => ⟨i, rfl, q H2 e2⟩
theorem ev_min2 {i j : Int} (h : EvA tx2 σ H [.int i, .int j]) : Ev (tCB rMin2 tx2) σ H (.int (if j < i then j else i)) := fun H1 e Q q => h H1 e _ fun H2 e2 => ⟨i, j, rfl, q H2 e2⟩
theorem ev_lenStr {z : Str} (h : Ev ta σ H (.str z)) (hz : z.length ≤ sizeLine) : Ev (tCB rLenStr (tCons ta tNil)) σ H (.int (z.length : Nat)) := fun H1 e Q q => h H1 e _ fun H2 e2 => ⟨z, rfl, hz, q H2 e2⟩
theorem ev_repr {d : PyData} (h : Ev ta σ H x) (hd : IsD H x d) (hs : KnM.Showy d) : Ev (tCB (KnM.rRepr K) (tCons ta tNil)) σ H (.str d.shown) := fun H1 e Q q => h H1 e _ fun H2 e2 => ⟨x, d, rfl, (hd.ex (e.trans e2)).dp, hs, q H2 e2⟩
theorem rv_isN : RV rIsN x .non H (.bl (decide (x = .non))) := rv_val fun H1 _ Q q => ⟨rfl, q⟩
/-- isinstance(x, T), a type -/
theorem ev_isi {T tn : String} {b : Bool} (h : Ev ta σ H x) (ht : ∀ H', Ex H H' → TyX K H' x (.type tn)) (hb : kitB tn T = some b) : Ev (tCB (rIsi K) (tCons ta (tCons (tC (.ty T)) tNil))) σ H (.bl b) := fun H1 e Q q =>
  h H1 e _ fun H2 e2 => ⟨x, .ty T, .type tn, .type T, b, rfl, .ty T, ht H2 (e.trans e2), kit_ty hb, q H2 e2⟩
/-- o.f -/
theorem ev_fld {f : Str} {a C dx : Addr} {fs : List (Str × V)} (h : Ev ta σ H (.ref a)) (hi : H a = some (.ins C dx fs)) (c : Cls K C) (na : NoAttr K C f) (lk : fs.lookup f = some v) : Ev (tFld K ta f) σ H v := fun H1 e Q q =>
  h H1 e _ fun H2 e2 => ⟨a, C, dx, fs, v, rfl, (e.trans e2) _ _ hi, c, na, lk, q H2 e2⟩
/-- a < b < c -/
theorem ev_chain {r r2 : R2} {b : Bool} {w : V} (ha : Ev ta σ H x) (hb : Ev tb σ H y) (hr : RV r x y H (.bl b)) (hc : b = true → Ev te σ H z ∧ RV r2 y z H w) (hf : b = false → w = .bl false) : Ev (tChain r r2 ta tb te) σ H w := fun H1 e Q q =>
  ha H1 e _ fun H2 e2 => hb H2 (e.trans e2) _ fun H3 e3 => hr H3 ((e.trans e2).trans e3) _ fun H4 e4 => ⟨b, rfl, by
    have e14 := (e2.trans e3).trans e4
    have e04 := e.trans e14
    cases b with
    | true =>
      obtain ⟨c1, c2⟩ := hc rfl
      refine iteT (c1 H4 e04 _ fun H5 e5 => ?_)
      exact c2 H5 (e04.trans e5) _ fun H6 e6 => q H6 ((e14.trans e5).trans e6)
    | false =>
      rw [hf rfl] at q
      exact iteF (q H4 e14)⟩
/-! statements -/
theorem s_asgP {i : Nat} (h : EvP te σ H P) (k : ∀ v H1, Ex H H1 → P v H1 → D.nx (σ.set i (some v)) H1) : tAsg te (gName i) D σ H := h H (Ex.refl H) _ fun v H1 e p => k v H1 e p
theorem q_asgP {i : Nat} (h : EvP te σ H P) (k : ∀ v H1, Ex H H1 → P v H1 → tz D (σ.set i (some v)) H1) : tSeq (tAsg te (gName i)) tz D σ H := s_asgP (D := { D with nx := tz D }) h k
theorem s_retP (h : EvP te σ H P) (k : Ret P H D.rt) : tRet te D σ H := h H (Ex.refl H) _ k
theorem s_retE (h : Ev te σ H v) (k : Ret (MP.eq v).p H D.rt) : tRet te D σ H := h H (Ex.refl H) _ fun H1 e => k v H1 e rfl
theorem s_appP {l : Addr} {xs : List V} (hl : H l = some (.lst xs)) (ha : Ev ta σ H (.ref l)) (h : EvP te σ H P) (hz : xs.length < 100000) (k : ∀ v H1, Ex H H1 → P v H1 → D.nx σ (upd H1 l (.lst (xs ++ [v])))) :
    tDrop (tBM K "list" rAppend ta (tCons te tNil)) D σ H :=
  ha H (Ex.refl H) _ fun H1 e1 => ⟨.inl ⟨rfl, xs, sq_of (e1 _ _ hl)⟩, h H1 e1 _ fun v H2 e2 p => ⟨l, xs, v, rfl, rfl, (e1.trans e2) _ _ hl, sz_lt hz, k v H2 (e1.trans e2) p⟩⟩
theorem q_appP {l : Addr} {xs : List V} (hl : H l = some (.lst xs)) (ha : Ev ta σ H (.ref l)) (h : EvP te σ H P) (hz : xs.length < 100000) (k : ∀ v H1, Ex H H1 → P v H1 → tz D σ (upd H1 l (.lst (xs ++ [v])))) :
    tSeq (tDrop (tBM K "list" rAppend ta (tCons te tNil))) tz D σ H := s_appP (D := { D with nx := tz D }) hl ha h hz k
/-- a, b, .. = a tuple -/
theorem s_asgX {n : Nat} {g : TGs} {xs : List V} (h : EvP te σ H (MP.tupX xs).p) (hn : xs.length = n) (k : ∀ H1, Ex H H1 → g xs σ H1 D.nx) : tAsg te (gTup K n g) D σ H := h H (Ex.refl H) _ fun v H1 e ⟨a, h1, h2⟩ => ⟨a, xs, h1, st_of h2, hn, k H1 e⟩
theorem q_asg2 {i j : Nat} {x y : V} (h : EvP te σ H (MP.tupX [x, y]).p) (k : ∀ H1, Ex H H1 → tz D ((σ.set i (some x)).set j (some y)) H1) : tSeq (tAsg te (gTup K 2 (gCons (gName i) (gCons (gName j) gNil)))) tz D σ H :=
  s_asgX (D := { D with nx := tz D }) h rfl fun H1 e => ⟨x, [y], rfl, y, [], rfl, rfl, k H1 e⟩
theorem q_par {i j : Nat} {x y : V} {ta : TA} (h : EvA ta σ H [x, y]) (k : ∀ H1, Ex H H1 → tz D ((σ.set i (some x)).set j (some y)) H1) : tSeq (tPar i j ta) tz D σ H :=
  h H (Ex.refl H) _ fun H1 e => ⟨x, y, rfl, k H1 e⟩
/-- x = [e] -/
theorem q_asgL1 {i : Nat} (h : EvP te σ H P) (up : ∀ v H H', Ex H H' → P v H → P v H') (k : ∀ p v H1, H p = none → Ex H H1 → P v H1 → H1 p = some (.lst [v]) → tz D (σ.set i (some (.ref p))) H1) : tSeq (tAsg (tLst (tCons te tNil)) (gName i)) tz D σ H :=
  h H (Ex.refl H) _ fun v H1 e p => ⟨by show 1 ≤ sizeLine; decide, fun l hl => k l v _ (fresh_back e hl) (e.trans (Ex.new hl)) (up _ _ _ (Ex.new hl) p) upd_same⟩
/-- xs[-1] -/
theorem ep_last {n : Nat} {Pi : Nat → MP} (h : EvP te σ H (LstP (n + 1) Pi)) : EvP (tOp (rIxL K) te (tUn (rU fun i => .int (-i)) (tC (.int 1)))) σ H (Pi n).p := fun H1 e Q q =>
  h H1 e _ fun v H2 e2 ⟨a, vs, h1, h2, h3, h4⟩ => by
    have hn : n < vs.length := by omega
    have hx : vs[n]? = some vs[n] := by simp [hn]
    have hat : atI vs (-1) = some vs[n] := atI_neg1 h3 hx
    exact ⟨1, rfl, a, vs, -1, vs[n], h1, rfl, sq_of h2, hat, q _ H2 e2 (h4 n _ hx)⟩
/-- o.f = e -/
theorem s_fldP {f : Str} {a C dx : Addr} {fs : List (Str × V)} (h : EvP te σ H P) (ho : Ev ta σ H (.ref a)) (hi : H a = some (.ins C dx fs)) (c : Cls K C) (na : NoAttr K C f) (hl : fs.length < 1000) (k : ∀ v H1, Ex H H1 → P v H1 → D.nx σ (upd H1 a (.ins C dx (putF f v fs)))) (up : ∀ v H H', Ex H H' → P v H → P v H') : sFld K ta te f D σ H :=
  h H (Ex.refl H) _ fun v H1 e1 p => ho H1 e1 _ fun H2 e2 => ⟨a, C, dx, fs, rfl, (e1.trans e2) _ _ hi, c, na, hl, k v H2 (e1.trans e2) (up _ _ _ e2 p)⟩
theorem q_fldP {f : Str} {a C dx : Addr} {fs : List (Str × V)} (h : EvP te σ H P) (ho : Ev ta σ H (.ref a)) (hi : H a = some (.ins C dx fs)) (c : Cls K C) (na : NoAttr K C f) (hl : fs.length < 1000) (k : ∀ v H1, Ex H H1 → P v H1 → tz D σ (upd H1 a (.ins C dx (putF f v fs)))) (up : ∀ v H H', Ex H H' → P v H → P v H') : tSeq (sFld K ta te f) tz D σ H :=
  s_fldP (D := { D with nx := tz D }) h ho hi c na hl k up
theorem q_fld {f : Str} {a C dx : Addr} {fs : List (Str × V)} (h : Ev te σ H v) (ho : Ev ta σ H (.ref a)) (hi : H a = some (.ins C dx fs)) (c : Cls K C) (na : NoAttr K C f) (hl : fs.length < 1000) (k : ∀ H1, Ex H H1 → tz D σ (upd H1 a (.ins C dx (putF f v fs)))) : tSeq (sFld K ta te f) tz D σ H :=
  q_fldP (P := (MP.eq v).p) (ep_ev h) ho hi c na hl (fun w H1 e p => by
    have p : w = v := p
    subst p
    exact k H1 e) fun _ _ _ _ p => p
theorem s_fld {f : Str} {a C dx : Addr} {fs : List (Str × V)} (h : Ev te σ H v) (ho : Ev ta σ H (.ref a)) (hi : H a = some (.ins C dx fs)) (c : Cls K C) (na : NoAttr K C f) (hl : fs.length < 1000) (k : ∀ H1, Ex H H1 → D.nx σ (upd H1 a (.ins C dx (putF f v fs)))) : sFld K ta te f D σ H :=
  s_fldP (P := (MP.eq v).p) (ep_ev h) ho hi c na hl (fun w H1 e p => by
    have p : w = v := p
    subst p
    exact k H1 e) fun _ _ _ _ p => p
/-- for i, x in enumerate(a tuple) -/
theorem q_forEnum {xs : List V} {j l : Nat} (h : EvP te σ H (MP.tupX xs).p) (Pv : Addr → Nat → L2.St → Hp → Prop) (h0 : ∀ a H1, Ex H H1 → H1 a = some (.tup xs) → Pv a 0 σ H1) (hG : ∀ a i σ' H', Pv a i σ' H' → H' a = some (.tup xs))
    (hs : ∀ a i x σ' H' T, xs[i]? = some x → Pv a i σ' H' → H' T = none → tu { D with nx := Pv a (i + 1), ct := Pv a (i + 1), bk := tz D } ((σ'.set j (some (.int (i : Nat)))).set l (some x)) (upd H' T (.tup [.int (i : Nat), x])))
    (hd : ∀ a σ' H', Pv a xs.length σ' H' → tz D σ' H') : tSeq (tFor (KnE.iEnumT K (tCons te tNil)) (gTup K 2 (gCons (gName j) (gCons (gName l) gNil))) tu) tz D σ H :=
  h H (Ex.refl H) _ fun v H1 e ⟨a, h1, h2⟩ => ⟨a, xs, by rw [h1], st_of h2, for_it (D := { D with nx := tz D }) (KnE.walk_enumT (K := K) (a := a) (xs := xs)) (Pv a) (h0 a H1 e h2) (fun i σ' H' _ p => st_of (hG a i σ' H' p)) (fun i x σ' H2 H3 hi p y => by
    obtain ⟨T, x1, x2, rfl, hT, rfl, e1, e2⟩ := y
    cases e1
    exact ⟨T, _, rfl, st_of upd_same, rfl, _, _, rfl, _, _, rfl, rfl, hs a i x2 σ' H2 T e2 p hT⟩) (hd a)⟩
/-! comprehensions without a test -/
/-- over a walk whose turns yield what Y tells, the heap growing: W a turn's value -/
theorem ep_lcW {J : It} {n : Nat} {g : TG} {vs : List Nat} {Pi : Nat → MP} {wi : TI} (hz : n ≤ 40000)
    (hw : ∀ H1, Ex H H1 → ∀ R : It → Hp → Prop, (∀ H2, Ex H1 H2 → R J H2) → wi σ H1 R)
    (hj : ∀ i H1, Ex H H1 → i < n → J.go i H1) (hs : ∀ H1, Ex H H1 → J.stop n H1)
    (hg : ∀ i H1 x H2, Ex H H1 → i < n → J.yld i H1 x H2 → Ex H1 H2 ∧ g x (wipe σ vs) H2 (fun σ2 H3 => Ex H2 H3 ∧ wipe σ2 vs = wipe σ vs ∧ ∀ H4, Ex H3 H4 → ∀ Q : VK, (∀ v H5, Ex H4 H5 → (Pi i).p v H5 → Q v H5) → te σ2 H4 Q)) :
    (∀ {x : V} {σ0 : L2.St} {H0 : Hp} {A B : L2.St → Hp → Prop}, (∀ s h, A s h → B s h) → g x σ0 H0 A → g x σ0 H0 B) → EvP (tLc wi g tYes te vs) σ H (LstP n Pi) := fun gm H1 e Q q =>
  hw H1 e _ fun H2 e2 => fun Dl hD => by
    refine ⟨fun i m H' => m = n - i ∧ i ≤ n ∧ Ex H2 H' ∧ ∃ acc, H' Dl = some (.lst acc) ∧ acc.length = i ∧ ∀ j v, acc[j]? = some v → (Pi j).p v H', ⟨n, by simp, Nat.zero_le _, Ex.new hD, [], upd_same, rfl, fun j v z => by simp at z⟩, ?_⟩
    rintro i m H' ⟨rfl, hi, e3, acc, h1, h2, h3⟩
    have e03 : Ex H H' := (e.trans e2).trans e3
    by_cases hlt : i < n
    · refine .inr ⟨hj i H' e03 hlt, fun H'' => i + 1 ≤ n ∧ Ex H2 H'' ∧ ∃ acc, H'' Dl = some (.lst acc) ∧ acc.length = i + 1 ∧ ∀ j v, acc[j]? = some v → (Pi j).p v H'', fun H'' ⟨a, b, c⟩ => ⟨n - (i + 1), by omega, rfl, a, b, c⟩, fun x H4 y => ?_⟩
      obtain ⟨e4, gg⟩ := hg i H' x H4 e03 hlt y
      refine gm (fun σ2 H5 hh => ?_) gg
      obtain ⟨e5, w, body⟩ := hh
      refine ⟨w, ?_⟩
      simp only [tYes, ↓reduceIte]
      refine body H5 (Ex.refl _) _ fun v H6 e6 pv => ?_
      have e36 : Ex H' H6 := (e4.trans e5).trans e6
      have hDl := e36 _ _ h1
      have eM : Ex H2 (upd H6 Dl (.lst (acc ++ [v]))) := (e3.trans e36).mut hD
      have fr : FrT H6 (upd H6 Dl (.lst (acc ++ [v]))) := FrT.new fun xs q => by rw [hDl] at q; cases q
      refine ⟨acc, hDl, sz_lt (by omega), hlt, eM, acc ++ [v], upd_same, by simp [h2], fun j w z => ?_⟩
      by_cases hj2 : j < acc.length
      · rw [List.getElem?_append_left hj2] at z
        exact (Pi j).up ((Ex.frT e36).trans fr) (h3 j w z)
      · have hj3 : j = i := by
          have := (List.getElem?_eq_some_iff.1 z).1
          simp at this
          omega
        subst hj3
        rw [← h2] at z
        simp at z
        subst z
        exact (Pi j).up fr pv
    · have hn : i = n := by omega
      subst hn
      exact .inl ⟨hs H' e03, q _ H' (e2.trans e3) ⟨Dl, acc, rfl, h1, h2, h3⟩⟩
theorem ep_lcR {ta : TA} {j : Nat} {vs : List Nat} {n : Nat} (Pi : Nat → MP) (h : EvA ta σ H [.int (n : Nat)]) (hn : n ≤ 40000) (hw : ∀ x, wipe ((wipe σ vs).set j (some x)) vs = wipe σ vs)
    (he : ∀ i, i < n → EvP te ((wipe σ vs).set j (some (.int (i : Nat)))) H (Pi i).p) : EvP (tLc (iRng1 ta) (gName j) tYes te vs) σ H (LstP n Pi) := by
  refine ep_lcW (J := Itr 0 n) hn (fun H1 e R k => h H1 e _ fun H2 e2 => ⟨n, rfl, by omega, by omega, ?_⟩) (fun i H1 _ hi => hi) (fun H1 _ => Nat.le_refl _) (fun i H1 x H2 e hi y => ?_) (fun k q => k _ _ q)
  · have : ((n : Nat) : Int).toNat = n := by omega
    rw [this]
    exact k H2 e2
  · obtain ⟨rfl, rfl⟩ := y
    refine ⟨Ex.refl _, Ex.refl _, hw _, fun H4 e4 Q q => ?_⟩
    have := he i hi H4 (e.trans e4) Q q
    simpa using this
theorem ep_lcT {a : Addr} {xs : List V} {tl : TE} {j : Nat} {vs : List Nat} (Pi : Nat → MP) (h : Ev tl σ H (.ref a)) (hx : SqT K H a xs) (hz : xs.length ≤ 40000) (hw : ∀ x, wipe ((wipe σ vs).set j (some x)) vs = wipe σ vs)
    (he : ∀ (i : Nat) (x : V), xs[i]? = some x → EvP te ((wipe σ vs).set j (some x)) H (Pi i).p) : EvP (tLc (iTup K tl) (gName j) tYes te vs) σ H (LstP xs.length Pi) := by
  refine ep_lcW (J := Itt K a) hz (fun H1 e R k => h H1 e _ fun H2 e2 => ⟨a, rfl, ⟨xs, ex_t (e.trans e2) hx⟩, k H2 e2⟩) (fun i H1 e hi => ⟨xs, xs[i], ex_t e hx, by simp [hi]⟩) (fun H1 e => ⟨xs, ex_t e hx, Nat.le_refl _⟩) (fun i H1 x H2 e hi y => ?_) (fun k q => k _ _ q)
  obtain ⟨rfl, y2⟩ := y
  refine ⟨Ex.refl _, Ex.refl _, hw _, fun H4 e4 Q q => ?_⟩
  exact he i x (y2 xs (ex_t e hx)) H4 (e.trans e4) Q q
theorem ep_lcE {a : Addr} {xs : List V} {ta : TA} {j l : Nat} {vs : List Nat} (Pi : Nat → MP) (h : EvA ta σ H [.ref a]) (hx : SqT K H a xs) (hz : xs.length ≤ 40000) (hw : ∀ x y, wipe (((wipe σ vs).set j (some x)).set l (some y)) vs = wipe σ vs)
    (he : ∀ (i : Nat) (x : V), xs[i]? = some x → EvP te (((wipe σ vs).set j (some (.int (i : Nat)))).set l (some x)) H (Pi i).p) : EvP (tLc (KnE.iEnumT K ta) (gTup K 2 (gCons (gName j) (gCons (gName l) gNil))) tYes te vs) σ H (LstP xs.length Pi) := by
  have W := KnE.walk_enumT (K := K) (a := a) (xs := xs)
  refine ep_lcW (J := KnE.Itet K a) hz (fun H1 e R k => h H1 e _ fun H2 e2 => ⟨a, xs, rfl, ex_t (e.trans e2) hx, k H2 e2⟩) (fun i H1 e hi => W.goes i H1 hi (ex_t e hx)) (fun H1 e => W.stops H1 (ex_t e hx)) (fun i H1 x H2 e hi y => ?_) (fun k q => ?_)
  · obtain ⟨T, x1, x2, rfl, hT, rfl, e1, e2⟩ := W.yields i H1 x H2 hi (ex_t e hx) y
    cases e1
    have ex := Ex.new (o := .tup [.int (i : Nat), x2]) hT
    refine ⟨ex, T, _, rfl, st_of upd_same, rfl, _, _, rfl, _, _, rfl, rfl, Ex.refl _, hw _ _, fun H4 e4 Q q => ?_⟩
    exact he i x2 e2 H4 ((e.trans ex).trans e4) Q q
  · obtain ⟨b, ys, h1, h2, h3, v, r, h4, v2, r2, h5, h6, h7⟩ := q
    exact ⟨b, ys, h1, h2, h3, v, r, h4, v2, r2, h5, h6, k _ _ h7⟩
end
end Kn

set_option Elab.async false
set_option linter.all false
set_option maxRecDepth 100000
set_option maxHeartbeats 4000000
/-! checks, patterns -/
namespace Kn
open PySem PySem.Spec PyProof.Rows L2 Evl
local macro_rules | `(tactic| walk_at "ev") => `(tactic| first
  | exact ev_var rfl
  | exact ev_c
  | exact ea_nil
  | (apply ea_cons <;> walk_at "ev")
  | (apply ev_op <;> walk_at "ev")
  | (apply ev_un <;> walk_at "ev")
  | exact rv_I0
  | exact rv_isN
  | (apply ev_int; walk_at "ev")
  | exact rv_eq rfl
  | exact rv_ne rfl
  | exact ru_neg
  | (apply rv_I; first | omega | decide | assumption | skip)
  | (apply rv_ixL; first | assumption | skip; first | assumption | skip)
  | (apply rv_ixT; first | assumption | skip; first | assumption | skip)
  | (apply ev_fld <;> first | walk_at "ev" | assumption | rfl | skip)
  | (apply ev_len <;> first | walk_at "ev" | assumption | skip)
  | (apply ev_lenT <;> first | walk_at "ev" | assumption | skip)
  | assumption
  | skip)
section
variable {K : PySem.W.Frag} {σ : L2.St} {H : Hp} {ta : TE}
theorem ev_allT {n : Nat} (h : EvP ta σ H (LstP n fun _ => MP.eq (.bl true))) : Ev (tCB (rAll K) (tCons ta tNil)) σ H (.bl true) := fun H1 e Q q =>
  h H1 e _ fun v H2 e2 ⟨a, vs, h1, h2, h3, h4⟩ => by
    subst h1
    have e : vs = (List.replicate n true).map V.bl := by
      rw [List.map_replicate]
      refine List.eq_replicate_iff.2 ⟨h3, fun b hb => ?_⟩
      obtain ⟨i, hi⟩ := List.getElem?_of_mem hb
      exact h4 i b hi
    refine ⟨a, List.replicate n true, rfl, sq_of (by rw [h2, e]), ?_⟩
    have : (List.replicate n true).all id = true := by simp
    rw [this]
    exact q H2 e2
theorem ev_calR {ta : TA} {sp : GS} {vs : List V} {v : V} (h : EvA ta σ H vs) (k : ∀ H1, Ex H H1 → ∀ Q : VK, Ret (MP.eq v).p H1 Q → sp vs H1 Q) : Ev (tCal sp ta) σ H v :=
  ev_cal h fun H1 e Q q => k H1 e Q fun w H2 e2 p => by
    have p : w = v := p
    rw [p]
    exact q H2 e2
end
def sp_is_integer (W : Wd) : GS := fun vs H Q => ∃ x tn b1 b2, vs = [x] ∧ (∀ H', Ex H H' → TyX W.K H' x (.type tn)) ∧ kitB tn "int" = some b1 ∧ kitB tn "bool" = some b2 ∧ Ret (MP.eq (.bl (b1 && !b2))).p H Q
abbrev N_is_integer : List Str := ["thing"]
theorem sc_is_integer : FnScope N_is_integer ["thing"] (defScope s_is_integer) := ⟨rfl, rfl, rfl, by decide +kernel, rfl, by decide +kernel, by decide +kernel⟩
theorem C_is_integer {W : Wd} (T : TopW W) : Cal W "is_integer" 1 (sp_is_integer W) := by
  refine cal_mk T (d := d_is_integer) (ps := ["thing"]) 0 0 rfl rfl rfl rfl rfl fun f fd F => ⟨fng_of F sc_is_integer (fun vs H Q h => ?_) (fun cdv A outer s H vs Q hr hg h => ?_), F.bindsN fun _ _ _ _ _ _ us hl => match us, hl with | [_], _ => rfl⟩
  · obtain ⟨x, tn, b1, b2, rfl, ht, h1, h2, q⟩ := h
    first | rfl | (subst h0; rfl)
  · have hu := hu_of hr
    have nd := sc_is_integer.nd
    obtain ⟨x, tn, b1, b2, rfl, ht, h1, h2, q⟩ := h
    try subst h0
    refine ⟨_, (pss_one (ps_ret (pe_and (pe_callB (cr_isk (K := W.K) rfl) rfl T.free_isinstance boot_isinstance (pa_cons (pv 0) (pa_cons (pe_ty (T.free_int) rfl rfl boot_int) pa_nil))) (pe_one (pe_not (pe_callB (cr_isk (K := W.K) rfl) rfl T.free_isinstance boot_isinstance (pa_cons (pv 0) (pa_cons (pe_ty (T.free_bool) rfl rfl boot_bool) pa_nil)))))))), ?_⟩
    exact s_retE (ev_andV (ev_isi (ev_var rfl) ht h1) fun _ => ev_notV (ev_isi (ev_var rfl) ht h2)) q
def sp_is_within (W : Wd) : GS := fun vs H Q => ∃ x a b : Int, vs = [.int x, .int a, .int b] ∧ Ret (MP.eq (.bl (decide (a ≤ x) && decide (x ≤ b)))).p H Q
theorem kit_ii : kitB "int" "int" = some true := by decide +kernel
theorem kit_ib : kitB "int" "bool" = some false := by decide +kernel
abbrev N_is_within : List Str := ["thing", "least", "most"]
theorem sc_is_within : FnScope N_is_within ["thing", "least", "most"] (defScope s_is_within) := ⟨rfl, rfl, rfl, by decide +kernel, rfl, by decide +kernel, by decide +kernel⟩
theorem C_is_within {W : Wd} (T : TopW W) : Cal W "is_within" 2 (sp_is_within W) := by
  have C_is_integer := C_is_integer T
  refine cal_mk T (d := d_is_within) (ps := ["thing", "least", "most"]) 1 1 rfl rfl rfl rfl rfl fun f fd F => ⟨fng_of F sc_is_within (fun vs H Q h => ?_) (fun cdv A outer s H vs Q hr hg h => ?_), F.bindsN fun _ _ _ _ _ _ us hl => match us, hl with | [_, _, _], _ => rfl⟩
  · obtain ⟨x, a, b, rfl, q⟩ := h
    first | rfl | (subst h0; rfl)
  · have hu := hu_of hr
    have nd := sc_is_within.nd
    obtain ⟨x, a, b, rfl, q⟩ := h
    try subst h0
    refine ⟨_, (pss_one (ps_ret (pe_and (pe_cal C_is_integer rfl hr (by decide) hg rfl (pa_cons (pv 0) pa_nil)) (pe_one (pe_chain op_le op_le (pv 1) (pv 0) (pv 2)))))), ?_⟩
    refine s_retE (ev_is (ev_andV (ev_calR (v := .bl (true && !false)) (by walk_at "ev") fun H1 e Q k => ⟨.int x, "int", true, false, rfl, fun H' _ => .base (.int x), kit_ii, kit_ib, k⟩) fun _ => ev_chain (b := decide (a ≤ x)) (w := .bl (decide (a ≤ x) && decide (x ≤ b))) (by walk_at "ev") (by walk_at "ev") rv_I0 (fun h => ⟨by walk_at "ev", by rw [h]; exact rv_I0⟩) fun h => by rw [h]; rfl) rfl) q
def sp_is_many (W : Wd) : GS := fun vs H Q => ∃ x : Int, vs = [.int x] ∧ 3 ≤ x ∧ x ≤ 5 ∧ Ret (MP.eq (.bl true)).p H Q
theorem two_le {x a b : Int} (h1 : a ≤ x) (h2 : x ≤ b) : (decide (a ≤ x) && decide (x ≤ b)) = true := by simp [h1, h2]
abbrev N_is_many : List Str := ["thing"]
theorem sc_is_many : FnScope N_is_many ["thing"] (defScope s_is_many) := ⟨rfl, rfl, rfl, by decide +kernel, rfl, by decide +kernel, by decide +kernel⟩
theorem C_is_many {W : Wd} (T : TopW W) : Cal W "is_many" 3 (sp_is_many W) := by
  have C_is_within := C_is_within T
  refine cal_mk T (d := d_is_many) (ps := ["thing"]) 2 2 rfl rfl rfl rfl rfl fun f fd F => ⟨fng_of F sc_is_many (fun vs H Q h => ?_) (fun cdv A outer s H vs Q hr hg h => ?_), F.bindsN fun _ _ _ _ _ _ us hl => match us, hl with | [_], _ => rfl⟩
  · obtain ⟨x, h0, h2, h3, q⟩ := h
    first | rfl | (subst h0; rfl)
  · have hu := hu_of hr
    have nd := sc_is_many.nd
    obtain ⟨x, h0, h2, h3, q⟩ := h
    try subst h0
    refine ⟨_, (pss_one (ps_ret (pe_cal C_is_within rfl hr (by decide) hg rfl (pa_cons (pv 0) (pa_cons (pe_gint (T.gint_LEAST_MANY) rfl rfl) (pa_cons (pe_gint (T.gint_MOST_MANY) rfl rfl) pa_nil)))))), ?_⟩
    refine s_retE (ev_is (ev_calR (v := .bl (decide (3 ≤ x) && decide (x ≤ 5))) (by walk_at "ev") fun H1 e Q k => ⟨x, 3, 5, rfl, k⟩) ?_) q
    rw [two_le h2 h3]
theorem kit_tt : kitB "tuple" "tuple" = some true := by decide +kernel
def sp_is_sized (W : Wd) : GS := fun vs H Q => ∃ (a : Addr) (xs : List V) (l m : Int), vs = [.ref a, .int l, .int m] ∧ H a = some (.tup xs) ∧ l ≤ xs.length ∧ (xs.length : Int) ≤ m ∧ Ret (MP.eq (.bl true)).p H Q
abbrev N_is_sized : List Str := ["thing", "least", "most"]
theorem sc_is_sized : FnScope N_is_sized ["thing", "least", "most"] (defScope s_is_sized) := ⟨rfl, rfl, rfl, by decide +kernel, rfl, by decide +kernel, by decide +kernel⟩
theorem C_is_sized {W : Wd} (T : TopW W) : Cal W "is_sized" 1 (sp_is_sized W) := by
  refine cal_mk T (d := d_is_sized) (ps := ["thing", "least", "most"]) 3 3 rfl rfl rfl rfl rfl fun f fd F => ⟨fng_of F sc_is_sized (fun vs H Q h => ?_) (fun cdv A outer s H vs Q hr hg h => ?_), F.bindsN fun _ _ _ _ _ _ us hl => match us, hl with | [_, _, _], _ => rfl⟩
  · obtain ⟨a, xs, l, m, h0, ha, h1, h2, q⟩ := h
    first | rfl | (subst h0; rfl)
  · have hu := hu_of hr
    have nd := sc_is_sized.nd
    obtain ⟨a, xs, l, m, h0, ha, h1, h2, q⟩ := h
    try subst h0
    refine ⟨_, (pss_one (ps_ret (pe_and (pe_callB (cr_isk (K := W.K) rfl) rfl T.free_isinstance boot_isinstance (pa_cons (pv 0) (pa_cons (pe_ty (T.free_tuple) rfl rfl boot_tuple) pa_nil))) (pe_one (pe_chain op_le op_le (pv 1) (pe_callB (cr_lenk (K := W.K) rfl) rfl T.free_len boot_len (pa_cons (pv 0) pa_nil)) (pv 2)))))), ?_⟩
    refine s_retE (ev_is (ev_andV (a := true) (b := true) (ev_isi (ev_var rfl) (fun H' e => .base (.tup (e _ _ ha))) kit_tt) fun _ => ev_chain (b := true) (w := .bl true) (by walk_at "ev") (ev_lenT (ev_var rfl) (st_of ha)) (by rw [← decide_eq_true h1]; exact rv_I0) (fun h => ⟨by walk_at "ev", by rw [← decide_eq_true h2]; exact rv_I0⟩) fun h => by cases h) rfl) q
def sp_is_pair (W : Wd) : GS := fun vs H Q => ∃ (a : Addr) (x y : V), vs = [.ref a] ∧ H a = some (.tup [x, y]) ∧ Ret (MP.eq (.bl true)).p H Q
abbrev N_is_pair : List Str := ["thing"]
theorem sc_is_pair : FnScope N_is_pair ["thing"] (defScope s_is_pair) := ⟨rfl, rfl, rfl, by decide +kernel, rfl, by decide +kernel, by decide +kernel⟩
theorem C_is_pair {W : Wd} (T : TopW W) : Cal W "is_pair" 2 (sp_is_pair W) := by
  have C_is_sized := C_is_sized T
  refine cal_mk T (d := d_is_pair) (ps := ["thing"]) 4 4 rfl rfl rfl rfl rfl fun f fd F => ⟨fng_of F sc_is_pair (fun vs H Q h => ?_) (fun cdv A outer s H vs Q hr hg h => ?_), F.bindsN fun _ _ _ _ _ _ us hl => match us, hl with | [_], _ => rfl⟩
  · obtain ⟨a, x, y, h0, ha, q⟩ := h
    first | rfl | (subst h0; rfl)
  · have hu := hu_of hr
    have nd := sc_is_pair.nd
    obtain ⟨a, x, y, h0, ha, q⟩ := h
    try subst h0
    refine ⟨_, (pss_one (ps_ret (pe_cal C_is_sized rfl hr (by decide) hg rfl (pa_cons (pv 0) (pa_cons pe_int (pa_cons pe_int pa_nil)))))), ?_⟩
    refine s_retE (ev_calR (v := .bl true) (by walk_at "ev") fun H1 e Q k => ⟨a, [x, y], 2, 2, rfl, e _ _ ha, by simp, by simp, k⟩) q
def sp_is_row_of (W : Wd) : GS := fun vs H Q => ∃ (a : Addr) (ns : List Int), vs = [.ref a, .int (ns.length : Nat)] ∧ H a = some (.tup (ns.map V.int)) ∧ ns.length ≤ 5 ∧ Ret (MP.eq (.bl true)).p H Q
abbrev N_is_row_of : List Str := ["thing", "many", "item"]
theorem sc_is_row_of : FnScope N_is_row_of ["thing", "many"] (defScope s_is_row_of) := ⟨rfl, rfl, rfl, by decide +kernel, rfl, by decide +kernel, by decide +kernel⟩
theorem C_is_row_of {W : Wd} (T : TopW W) : Cal W "is_row_of" 2 (sp_is_row_of W) := by
  have C_is_integer := C_is_integer T
  have C_is_sized := C_is_sized T
  refine cal_mk T (d := d_is_row_of) (ps := ["thing", "many"]) 5 5 rfl rfl rfl rfl rfl fun f fd F => ⟨fng_of F sc_is_row_of (fun vs H Q h => ?_) (fun cdv A outer s H vs Q hr hg h => ?_), F.bindsN fun _ _ _ _ _ _ us hl => match us, hl with | [_, _], _ => rfl⟩
  · obtain ⟨a, ns, h0, ha, hl, q⟩ := h
    first | rfl | (subst h0; rfl)
  · have hu := hu_of hr
    have nd := sc_is_row_of.nd
    obtain ⟨a, ns, h0, ha, hl, q⟩ := h
    try subst h0
    refine ⟨_, (pss_one (ps_ret (pe_and (pe_cal C_is_sized rfl hr (by decide) hg rfl (pa_cons (pv 0) (pa_cons (pv 1) (pa_cons (pv 1) pa_nil)))) (pe_one (pe_callB (cr_allk (K := W.K) rfl rfl) rfl T.free_all boot_all (pa_cons (pe_lc (own := [("item", 2)]) rfl nd (pi_tupk (K := W.K) rfl (pv 0)) (blkOk_by (own := [("item", 2)]) (N := N_is_row_of) (sc := defScope s_is_row_of) (by decide +kernel)) (fun _ _ _ _ _ => (pg_name (i := 2) nd rfl (Or.inl rfl))) (fun _ _ _ _ _ => pts_nil) (fun _ _ _ _ _ => (pe_cal C_is_integer rfl hr (by decide) hg rfl (pa_cons (pv 2) pa_nil)))) pa_nil)))))), ?_⟩
    have len : (ns.map V.int).length = ns.length := List.length_map _
    refine s_retE (ev_is (ev_andV (a := true) (b := true) (ev_calR (by walk_at "ev") fun H1 e Q k => ⟨a, ns.map V.int, (ns.length : Nat), (ns.length : Nat), rfl, e _ _ ha, by rw [len]; exact Int.le_refl _, by rw [len]; exact Int.le_refl _, k⟩) fun _ => ?_) rfl) q
    refine ev_allT (ep_lcT (fun _ => MP.eq (.bl true)) (ev_var rfl) (st_of ha) (by rw [len]; omega) (fun _ => rfl) fun i x hx => ?_)
    obtain ⟨n, hn⟩ : ∃ n, x = V.int n := by
      obtain ⟨n, _, e⟩ := List.mem_map.1 (List.mem_of_getElem? hx)
      exact ⟨n, e.symm⟩
    subst hn
    exact ep_ev (ev_calR (v := .bl (true && !false)) (by walk_at "ev") fun H1 e Q k => ⟨.int n, "int", true, false, rfl, fun H' _ => .base (.int n), kit_ii, kit_ib, k⟩)
def sp_is_row (W : Wd) : GS := fun vs H Q => ∃ (a : Addr) (ns : List Int), vs = [.ref a] ∧ H a = some (.tup (ns.map V.int)) ∧ 3 ≤ ns.length ∧ ns.length ≤ 5 ∧ Ret (MP.eq (.bl true)).p H Q
abbrev N_is_row : List Str := ["thing"]
theorem sc_is_row : FnScope N_is_row ["thing"] (defScope s_is_row) := ⟨rfl, rfl, rfl, by decide +kernel, rfl, by decide +kernel, by decide +kernel⟩
theorem C_is_row {W : Wd} (T : TopW W) : Cal W "is_row" 4 (sp_is_row W) := by
  have C_is_many := C_is_many T
  have C_is_row_of := C_is_row_of T
  refine cal_mk T (d := d_is_row) (ps := ["thing"]) 6 6 rfl rfl rfl rfl rfl fun f fd F => ⟨fng_of F sc_is_row (fun vs H Q h => ?_) (fun cdv A outer s H vs Q hr hg h => ?_), F.bindsN fun _ _ _ _ _ _ us hl => match us, hl with | [_], _ => rfl⟩
  · obtain ⟨a, ns, h0, ha, h3, h5, q⟩ := h
    first | rfl | (subst h0; rfl)
  · have hu := hu_of hr
    have nd := sc_is_row.nd
    obtain ⟨a, ns, h0, ha, h3, h5, q⟩ := h
    try subst h0
    refine ⟨_, (pss_one (ps_ret (pe_and (pe_callB (cr_isk (K := W.K) rfl) rfl T.free_isinstance boot_isinstance (pa_cons (pv 0) (pa_cons (pe_ty (T.free_tuple) rfl rfl boot_tuple) pa_nil))) (pe_and (pe_cal C_is_many rfl hr (by decide) hg rfl (pa_cons (pe_callB (cr_lenk (K := W.K) rfl) rfl T.free_len boot_len (pa_cons (pv 0) pa_nil)) pa_nil)) (pe_one (pe_cal C_is_row_of rfl hr (by decide) hg rfl (pa_cons (pv 0) (pa_cons (pe_callB (cr_lenk (K := W.K) rfl) rfl T.free_len boot_len (pa_cons (pv 0) pa_nil)) pa_nil)))))))), ?_⟩
    have len : (ns.map V.int).length = ns.length := List.length_map _
    have hl : ∀ {σ : L2.St}, σ[0]? = some (some (.ref a)) → Ev (tCB (rLenS W.K) (tCons (tVar 0) tNil)) σ H (.int (ns.length : Nat)) := fun h => by
      rw [← len]
      exact ev_lenT (ev_var h) (st_of ha)
    refine s_retE (ev_is (ev_andV (a := true) (b := true) (ev_isi (ev_var rfl) (fun H' e => .base (.tup (e _ _ ha))) kit_tt) fun _ => ev_andV (a := true) (b := true) (ev_calR (ea_cons (hl rfl) ea_nil) fun H1 e Q k => ⟨_, rfl, by omega, by omega, k⟩) fun _ => ?_) rfl) q
    exact ev_calR (ea_cons (ev_var rfl) (ea_cons (hl rfl) ea_nil)) fun H1 e Q k => ⟨a, ns, rfl, e _ _ ha, h5, k⟩
def sp_check_rounds (W : Wd) : GS := fun vs H Q => ∃ r : Nat, vs = [.int r] ∧ r ≤ 30 ∧ Ret (MP.eq .non).p H Q
abbrev N_check_rounds : List Str := ["thing"]
theorem sc_check_rounds : FnScope N_check_rounds ["thing"] (defScope s_check_rounds) := ⟨rfl, rfl, rfl, by decide +kernel, rfl, by decide +kernel, by decide +kernel⟩
theorem C_check_rounds {W : Wd} (T : TopW W) : Cal W "check_rounds" 3 (sp_check_rounds W) := by
  have C_is_within := C_is_within T
  refine cal_mk T (d := d_check_rounds) (ps := ["thing"]) 7 7 rfl rfl rfl rfl rfl fun f fd F => ⟨fng_of F sc_check_rounds (fun vs H Q h => ?_) (fun cdv A outer s H vs Q hr hg h => ?_), F.bindsN fun _ _ _ _ _ _ us hl => match us, hl with | [_], _ => rfl⟩
  · obtain ⟨r, h0, h1, q⟩ := h
    first | rfl | (subst h0; rfl)
  · have hu := hu_of hr
    have nd := sc_check_rounds.nd
    obtain ⟨r, h0, h1, q⟩ := h
    try subst h0
    refine ⟨_, (pss_one (ps_if (pt_not (pt_val (pe_cal C_is_within rfl hr (by decide) hg rfl (pa_cons (pv 0) (pa_cons pe_int (pa_cons (pe_gint (T.gint_MOST_ROUNDS) rfl rfl) pa_nil)))))) (pss_one ps_never) pss_nil)), ?_⟩
    refine s_when (b := false) (et_is (et_not (et_B (ev_calR (v := .bl (decide (0 ≤ (r : Int)) && decide ((r : Int) ≤ 30))) (by walk_at "ev") fun H1 e Q k => ⟨r, 0, 30, rfl, k⟩))) ?_) (fun h => by cases h) fun _ H1 e => q .non H1 e rfl
    rw [two_le (by omega) (by omega)]
    rfl
def sp_is_miss (W : Wd) : GS := fun vs H Q => ∃ (n me : Nat) (m : Option Nat), vs = [.int n, .int me, oV m] ∧ (∀ o, m = some o → o < n ∧ o ≠ me) ∧ Ret (MP.eq (.bl true)).p H Q
abbrev N_is_miss : List Str := ["many", "me", "thing"]
theorem sc_is_miss : FnScope N_is_miss ["many", "me", "thing"] (defScope s_is_miss) := ⟨rfl, rfl, rfl, by decide +kernel, rfl, by decide +kernel, by decide +kernel⟩
theorem C_is_miss {W : Wd} (T : TopW W) : Cal W "is_miss" 3 (sp_is_miss W) := by
  have C_is_within := C_is_within T
  refine cal_mk T (d := d_is_miss) (ps := ["many", "me", "thing"]) 8 8 rfl rfl rfl rfl rfl fun f fd F => ⟨fng_of F sc_is_miss (fun vs H Q h => ?_) (fun cdv A outer s H vs Q hr hg h => ?_), F.bindsN fun _ _ _ _ _ _ us hl => match us, hl with | [_, _, _], _ => rfl⟩
  · obtain ⟨n, me, m, h0, h1, q⟩ := h
    first | rfl | (subst h0; rfl)
  · have hu := hu_of hr
    have nd := sc_is_miss.nd
    obtain ⟨n, me, m, h0, h1, q⟩ := h
    try subst h0
    refine ⟨_, (pss_one (ps_ret (pe_or (pe_cmpR op_isNq (pv 2) pe_non (nomark _)) (pe_one (pe_and (pe_cal C_is_within rfl hr (by decide) hg rfl (pa_cons (pv 2) (pa_cons pe_int (pa_cons (pe_op op_sub (pv 0) pe_int) pa_nil)))) (pe_one (pe_cmpR op_ne (pv 2) (pv 1) (nomark _)))))))), ?_⟩
    cases m with
    | none => exact s_retE (ev_is (ev_orV (a := true) (b := true) (ev_op (ev_var rfl) ev_c rv_isN) (fun h => by cases h)) rfl) q
    | some o =>
      obtain ⟨h2, h3⟩ := h1 o rfl
      refine s_retE (ev_is (ev_orV (a := false) (b := true) (ev_op (ev_var rfl) ev_c rv_isN) fun _ => ev_andV (a := true) (b := true) (ev_is (ev_calR (v := .bl (decide (0 ≤ (o : Int)) && decide ((o : Int) ≤ (n : Int) - 1))) (ea_cons (ev_var rfl) (ea_cons ev_c (ea_cons (ev_op (ev_var rfl) ev_c rv_I0) ea_nil))) fun H1 e Q k => ⟨o, 0, (n : Int) - 1, rfl, k⟩) ?_) fun _ => ev_is (ev_op (ev_var rfl) (ev_var rfl) (rv_ne rfl)) ?_) rfl) q
      · rw [two_le (by omega) (by omega)]
      · have : ¬ V.int (o : Nat) = V.int (me : Nat) := fun e => by
          have e := V.int.inj e
          omega
        show V.bl (!decide (V.int (o : Nat) = V.int (me : Nat))) = _
        rw [decide_eq_false this]
        rfl
/-- a row of a pattern -/
def MP.row (row : List (Option Nat)) : MP := MP.tupX (row.map oV)
def RowOk (n : Nat) (row : List (Option Nat)) : Prop := row.length = n ∧ ∀ (me : Nat) (m : Option Nat), row[me]? = some m → ∀ o, m = some o → o < n ∧ o ≠ me
def sp_is_round (W : Wd) : GS := fun vs H Q => ∃ (n : Nat) (a : Addr) (row : List (Option Nat)), vs = [.int n, .ref a] ∧ H a = some (.tup (row.map oV)) ∧ RowOk n row ∧ n ≤ 5 ∧ Ret (MP.eq (.bl true)).p H Q
abbrev N_is_round : List Str := ["many", "thing", "me", "missed"]
theorem sc_is_round : FnScope N_is_round ["many", "thing"] (defScope s_is_round) := ⟨rfl, rfl, rfl, by decide +kernel, rfl, by decide +kernel, by decide +kernel⟩
theorem C_is_round {W : Wd} (T : TopW W) : Cal W "is_round" 4 (sp_is_round W) := by
  have C_is_miss := C_is_miss T
  have C_is_sized := C_is_sized T
  refine cal_mk T (d := d_is_round) (ps := ["many", "thing"]) 9 9 rfl rfl rfl rfl rfl fun f fd F => ⟨fng_of F sc_is_round (fun vs H Q h => ?_) (fun cdv A outer s H vs Q hr hg h => ?_), F.bindsN fun _ _ _ _ _ _ us hl => match us, hl with | [_, _], _ => rfl⟩
  · obtain ⟨n, a, row, h0, ha, ⟨h1, h2⟩, h3, q⟩ := h
    first | rfl | (subst h0; rfl)
  · have hu := hu_of hr
    have nd := sc_is_round.nd
    obtain ⟨n, a, row, h0, ha, ⟨h1, h2⟩, h3, q⟩ := h
    try subst h0
    refine ⟨_, (pss_one (ps_ret (pe_and (pe_cal C_is_sized rfl hr (by decide) hg rfl (pa_cons (pv 1) (pa_cons (pv 0) (pa_cons (pv 0) pa_nil)))) (pe_one (pe_callB (cr_allk (K := W.K) rfl rfl) rfl T.free_all boot_all (pa_cons (pe_lc (own := [("me", 2), ("missed", 3)]) rfl nd (pi_enumk (K := W.K) rfl rfl T.free_enumerate (pa_cons (pv 1) pa_nil)) (blkOk_by (own := [("me", 2), ("missed", 3)]) (N := N_is_round) (sc := defScope s_is_round) (by decide +kernel)) (fun _ _ _ _ _ => (pg_tupk (K := W.K) (n := 2) rfl rfl (pgs_cons (pg_name (i := 2) nd rfl (Or.inl rfl)) (pgs_cons (pg_name (i := 3) nd rfl (Or.inl rfl)) pgs_nil)) rfl)) (fun _ _ _ _ _ => pts_nil) (fun _ _ _ _ _ => (pe_cal C_is_miss rfl hr (by decide) hg rfl (pa_cons (pv 0) (pa_cons (pv 2) (pa_cons (pv 3) pa_nil)))))) pa_nil)))))), ?_⟩
    have len : (row.map oV).length = row.length := List.length_map _
    refine s_retE (ev_is (ev_andV (a := true) (b := true) (ev_calR (by walk_at "ev") fun H1 e Q k => ⟨a, row.map oV, n, n, rfl, e _ _ ha, by omega, by omega, k⟩) fun _ => ?_) rfl) q
    refine ev_allT (ep_lcE (fun _ => MP.eq (.bl true)) (by walk_at "ev") (st_of ha) (by rw [len]; omega) (fun _ _ => rfl) fun i x hx => ?_)
    rw [List.getElem?_map] at hx
    obtain ⟨m, hm, rfl⟩ := Option.map_eq_some_iff.1 hx
    exact ep_ev (ev_calR (by walk_at "ev") fun H1 e Q k => ⟨n, i, m, rfl, h2 i m hm, k⟩)
/-- a pattern: the tuple of its rows -/
def PatAt (H : Hp) (a : Addr) (p : List (List (Option Nat))) : Prop := ∃ vs : List V, H a = some (.tup vs) ∧ vs.length = p.length ∧ ∀ (i : Nat) (v : V) (row : List (Option Nat)), vs[i]? = some v → p[i]? = some row → (MP.row row).p v H
theorem PatAt.up {H H' : Hp} {a : Addr} {p : List (List (Option Nat))} (h : PatAt H a p) (e : FrT H H') : PatAt H' a p := by
  obtain ⟨vs, h1, h2, h3⟩ := h
  exact ⟨vs, e _ _ h1, h2, fun i v row a b => (MP.row row).up e (h3 i v row a b)⟩
def PatOk (n : Nat) (p : List (List (Option Nat))) : Prop := ∀ row ∈ p, RowOk n row
def sp_is_pattern_of (W : Wd) : GS := fun vs H Q => ∃ (n : Nat) (a : Addr) (p : List (List (Option Nat))), vs = [.int n, .int p.length, .ref a] ∧ PatAt H a p ∧ PatOk n p ∧ n ≤ 5 ∧ p.length ≤ 30 ∧ Ret (MP.eq (.bl true)).p H Q
abbrev N_is_pattern_of : List Str := ["many", "rounds", "thing", "least", "most", "item"]
theorem sc_is_pattern_of : FnScope N_is_pattern_of ["many", "rounds", "thing"] (defScope s_is_pattern_of) := ⟨rfl, rfl, rfl, by decide +kernel, rfl, by decide +kernel, by decide +kernel⟩
theorem C_is_pattern_of {W : Wd} (T : TopW W) : Cal W "is_pattern_of" 5 (sp_is_pattern_of W) := by
  have C_is_round := C_is_round T
  have C_is_sized := C_is_sized T
  refine cal_mk T (d := d_is_pattern_of) (ps := ["many", "rounds", "thing"]) 10 10 rfl rfl rfl rfl rfl fun f fd F => ⟨fng_of F sc_is_pattern_of (fun vs H Q h => ?_) (fun cdv A outer s H vs Q hr hg h => ?_), F.bindsN fun _ _ _ _ _ _ us hl => match us, hl with | [_, _, _], _ => rfl⟩
  · obtain ⟨n, a, p, h0, ⟨vs, h1, h2, h3⟩, h4, h5, h6, q⟩ := h
    first | rfl | (subst h0; rfl)
  · have hu := hu_of hr
    have nd := sc_is_pattern_of.nd
    obtain ⟨n, a, p, h0, ⟨vs, h1, h2, h3⟩, h4, h5, h6, q⟩ := h
    try subst h0
    refine ⟨_, (pss_cons (ps_asg (pe_ifExp (pt_cmpR op_isNq (pv 1) pe_non (nomark _)) (pe_tup (pa_cons pe_int (pa_cons (pe_gint (T.gint_MOST_ROUNDS) rfl rfl) pa_nil))) (pe_tup (pa_cons (pv 1) (pa_cons (pv 1) pa_nil)))) (pg_tupk (K := W.K) (n := 2) rfl rfl (pgs_cons (pg_name (i := 3) nd rfl (Or.inl rfl)) (pgs_cons (pg_name (i := 4) nd rfl (Or.inl rfl)) pgs_nil)) rfl)) (pss_one (ps_ret (pe_and (pe_cal C_is_sized rfl hr (by decide) hg rfl (pa_cons (pv 2) (pa_cons (pv 3) (pa_cons (pv 4) pa_nil)))) (pe_one (pe_callB (cr_allk (K := W.K) rfl rfl) rfl T.free_all boot_all (pa_cons (pe_lc (own := [("item", 5)]) rfl nd (pi_tupk (K := W.K) rfl (pv 2)) (blkOk_by (own := [("item", 5)]) (N := N_is_pattern_of) (sc := defScope s_is_pattern_of) (by decide +kernel)) (fun _ _ _ _ _ => (pg_name (i := 5) nd rfl (Or.inl rfl))) (fun _ _ _ _ _ => pts_nil) (fun _ _ _ _ _ => (pe_cal C_is_round rfl hr (by decide) hg rfl (pa_cons (pv 0) (pa_cons (pv 5) pa_nil))))) pa_nil))))))), ?_⟩
    have hT : EvP (tIf (tTest (tOp rIsN (tVar 1) (tC V.non))) (tTup (tCons (tC (V.int 0)) (tCons (tC (V.int 30)) tNil))) (tTup (tCons (tVar 1) (tCons (tVar 1) tNil)))) (L2.start N_is_pattern_of [V.int n, V.int p.length, V.ref a]) H (MP.tupX [V.int p.length, V.int p.length]).p :=
      ep_if (b := false) (et_test (ev_op (ev_var rfl) ev_c rv_isN)) (fun h => by cases h) fun _ => ep_U (eu_tup (by walk_at "ev") (by simp))
    refine q_asg2 hT fun H1 e1 => ?_
    refine s_retP (P := (MP.eq (.bl true)).p) (ep_ev (ev_is (ev_andV (a := true) (b := true) (ev_calR (by walk_at "ev") fun H2 e Q k => ⟨a, vs, p.length, p.length, rfl, (e1.trans e) _ _ h1, by omega, by omega, k⟩) fun _ => ?_) rfl)) fun v H2 e2 pv => q v H2 (e1.trans e2) pv
    refine ev_allT (ep_lcT (fun _ => MP.eq (.bl true)) (by walk_at "ev") (st_of (e1 _ _ h1)) (by omega) (fun _ => rfl) fun i x hx => ?_)
    have hi : i < p.length := by have := (List.getElem?_eq_some_iff.1 hx).1; omega
    obtain ⟨b, rfl, hb⟩ := h3 i x p[i] hx (by simp [hi])
    exact ep_ev (ev_calR (by walk_at "ev") fun H2 e Q k => ⟨n, b, p[i], rfl, (e1.trans e) _ _ hb, h4 _ (List.getElem_mem hi), h5, k⟩)
def sp_check_pattern (W : Wd) : GS := fun vs H Q => ∃ (n : Nat) (a : Addr) (p : List (List (Option Nat))), vs = [.int n, .int p.length, .ref a] ∧ PatAt H a p ∧ PatOk n p ∧ n ≤ 5 ∧ p.length ≤ 30 ∧ Ret (MP.eq .non).p H Q
abbrev N_check_pattern : List Str := ["many", "rounds", "thing"]
theorem sc_check_pattern : FnScope N_check_pattern ["many", "rounds", "thing"] (defScope s_check_pattern) := ⟨rfl, rfl, rfl, by decide +kernel, rfl, by decide +kernel, by decide +kernel⟩
theorem C_check_pattern {W : Wd} (T : TopW W) : Cal W "check_pattern" 6 (sp_check_pattern W) := by
  have C_is_pattern_of := C_is_pattern_of T
  refine cal_mk T (d := d_check_pattern) (ps := ["many", "rounds", "thing"]) 11 11 rfl rfl rfl rfl rfl fun f fd F => ⟨fng_of F sc_check_pattern (fun vs H Q h => ?_) (fun cdv A outer s H vs Q hr hg h => ?_), F.bindsN fun _ _ _ _ _ _ us hl => match us, hl with | [_, _, _], _ => rfl⟩
  · obtain ⟨n, a, p, h0, h1, h4, h5, h6, q⟩ := h
    first | rfl | (subst h0; rfl)
  · have hu := hu_of hr
    have nd := sc_check_pattern.nd
    obtain ⟨n, a, p, h0, h1, h4, h5, h6, q⟩ := h
    try subst h0
    refine ⟨_, (pss_one (ps_if (pt_not (pt_val (pe_cal C_is_pattern_of rfl hr (by decide) hg rfl (pa_cons (pv 0) (pa_cons (pv 1) (pa_cons (pv 2) pa_nil)))))) (pss_one ps_never) pss_nil)), ?_⟩
    exact s_when (b := false) (et_not (et_B (ev_calR (v := .bl true) (by walk_at "ev") fun H1 e Q k => ⟨n, a, p, rfl, h1.up (Ex.frT e), h4, h5, h6, k⟩))) (fun h => by cases h) fun _ H1 e => q .non H1 e rfl
theorem kit_fn5 {K : PySem.W.Frag} : PySem.W.kitAny K (.type "function") [.type "int", .type "str", .type "tuple", .type "list", .type "dict"] = some false :=
  kitAny_cons (kit_ty (b := "int") (r := false) (by decide +kernel)) (fun _ => kitAny_cons (kit_ty (b := "str") (r := false) (by decide +kernel)) (fun _ => kitAny_cons (kit_ty (b := "tuple") (r := false) (by decide +kernel)) (fun _ => kitAny_cons (kit_ty (b := "list") (r := false) (by decide +kernel)) (fun _ => kitAny_cons (kit_ty (b := "dict") (r := false) (by decide +kernel)) (fun _ => kitAny_nil) (fun h => by cases h)) (fun h => by cases h)) (fun h => by cases h)) (fun h => by cases h)) (fun h => by cases h)
def sp_is_no_function (W : Wd) : GS := fun vs H Q => ∃ (f : Addr) (L : LD) (q y : Str) (c c2 : Addr), vs = [.ref f] ∧ H f = some (LamO f L q y c c2) ∧ Ret (MP.eq (.bl false)).p H Q
abbrev N_is_no_function : List Str := ["thing"]
theorem sc_is_no_function : FnScope N_is_no_function ["thing"] (defScope s_is_no_function) := ⟨rfl, rfl, rfl, by decide +kernel, rfl, by decide +kernel, by decide +kernel⟩
theorem C_is_no_function {W : Wd} (T : TopW W) : Cal W "is_no_function" 1 (sp_is_no_function W) := by
  refine cal_mk T (d := d_is_no_function) (ps := ["thing"]) 12 12 rfl rfl rfl rfl rfl fun f fd F => ⟨fng_of F sc_is_no_function (fun vs H Q h => ?_) (fun cdv A outer s H vs Q hr hg h => ?_), F.bindsN fun _ _ _ _ _ _ us hl => match us, hl with | [_], _ => rfl⟩
  · obtain ⟨f, L, ql, y, c, c2, h0, hf, q⟩ := h
    first | rfl | (subst h0; rfl)
  · have hu := hu_of hr
    have nd := sc_is_no_function.nd
    obtain ⟨f, L, ql, y, c, c2, h0, hf, q⟩ := h
    try subst h0
    refine ⟨_, (pss_one (ps_ret (pe_or (pe_cmpR op_isNq (pv 0) pe_non (nomark _)) (pe_one (pe_callB (cr_isFk (K := W.K) rfl) rfl T.free_isinstance boot_isinstance (pa_cons (pv 0) (pa_cons (pe_tup (pa_cons (pe_ty (T.free_int) rfl rfl boot_int) (pa_cons (pe_ty (T.free_str) rfl rfl boot_str) (pa_cons (pe_ty (T.free_tuple) rfl rfl boot_tuple) (pa_cons (pe_ty (T.free_list) rfl rfl boot_list) (pa_cons (pe_ty (T.free_dict) rfl rfl boot_dict) pa_nil)))))) pa_nil))))))), ?_⟩
    refine s_retE (ev_is (ev_orV (a := false) (b := false) (ev_op (ev_var rfl) ev_c rv_isN) fun _ => ?_) rfl) q
    refine ep_eq (ep_cb (eap_cons (M := .eq (.ref f)) (ep_ev (ev_var rfl)) (eap_cons (M := .tupX [.ty "int", .ty "str", .ty "tuple", .ty "list", .ty "dict"]) (ep_U (eu_tup (by walk_at "ev") (by simp))) eap_nil)) fun vs H1 e p Q k => ?_)
    obtain ⟨_, _, h1, h2, _, _, h3, ⟨tp, h4, h5⟩, h6⟩ := p
    cases h2; cases h4; cases h6; cases h3; cases h1
    exact ⟨f, tp, L, ql, y, c, c2, _, [.type "int", .type "str", .type "tuple", .type "list", .type "dict"], false, rfl, e _ _ hf, h5, .cons (.ty _) (.cons (.ty _) (.cons (.ty _) (.cons (.ty _) (.cons (.ty _) .nil)))), kit_fn5, k _ H1 (Ex.refl H1) rfl⟩
end Kn

set_option Elab.async false
set_option linter.all false
set_option maxRecDepth 100000
set_option maxHeartbeats 4000000
/-! the strangers' machines -/
namespace Kn
open PySem PySem.Spec PyProof.Rows L2 Evl
local macro_rules | `(tactic| walk_at "ev") => `(tactic| first
  | ((with_reducible apply ev_var); exact rfl)
  | with_reducible exact ev_c
  | with_reducible exact ea_nil
  | ((with_reducible apply ea_cons) <;> walk_at "ev")
  | ((with_reducible apply ev_int); walk_at "ev")
  | ((with_reducible apply ev_op) <;> walk_at "ev")
  | ((with_reducible apply ev_un) <;> walk_at "ev")
  | with_reducible exact rv_I0
  | with_reducible exact rv_isN
  | ((with_reducible apply rv_eq); exact rfl)
  | ((with_reducible apply rv_ne); exact rfl)
  | with_reducible exact ru_neg
  | ((with_reducible apply rv_I); first | exact Or.inl (by decide) | decide | assumption | skip)
  | ((with_reducible apply rv_ixL) <;> first | assumption | exact rfl | skip)
  | ((with_reducible apply rv_ixT) <;> first | assumption | exact rfl | skip)
  | ((with_reducible apply ev_fld) <;> first | walk_at "ev" | assumption | exact rfl | skip)
  | ((with_reducible apply ev_len) <;> first | walk_at "ev" | assumption | skip)
  | ((with_reducible apply ev_lenT) <;> first | walk_at "ev" | assumption | skip)
  | exact rv_eq rfl
  | exact rv_ne rfl
  | assumption
  | skip)
def ShapeAt (H : Hp) (a : Addr) (s : Sh) : Prop := H a = some (.lst [.int s.rounds, .int s.fac, .int s.salt, .int s.kind])
theorem ShapeAt.sq {K : PySem.W.Frag} {H : Hp} {a : Addr} {s : Sh} (h : ShapeAt H a s) : SqL K H a [.int s.rounds, .int s.fac, .int s.salt, .int s.kind] := sq_of h
section
variable {K : PySem.W.Frag} {σ : L2.St} {H : Hp} {s : Sh} {t : Int} {i : Nat} {a : Addr} {ta : TE}
theorem kind_eq {k : Nat} {j : Nat} (h : k = j) : decide (V.int (k : Nat) = V.int (j : Nat)) = true := by subst h; exact decide_eq_true rfl
theorem kind_ne {k : Nat} {j : Nat} (h : k ≠ j) : decide (V.int (k : Nat) = V.int (j : Nat)) = false := decide_eq_false fun e => h (Int.ofNat.inj (V.int.inj e))
theorem int_dec {i j : Int} : decide (V.int i = V.int j) = decide (i = j) := by
  by_cases h : i = j
  · subst h; simp
  · rw [decide_eq_false h, decide_eq_false fun e => h (V.int.inj e)]
/-- None for every fourth total of the third kind -/
theorem ev_mod (hq : SqL K H a [.int s.rounds, .int s.fac, .int s.salt, .int s.kind]) (h0 : Ev (tVar 0) σ H (.ref a)) (h3 : Ev (tVar i) σ H (.int t)) :
    EvP (tIf (tAnd (tTest (tOp rEq (tOp (rIxL K) (tVar 0) (tC (.int 3))) (tC (.int 2)))) (tTest (tOp rEq (tOp (rI (fun _ j => 0 < j) fun i j => .int (i % j)) (tCB rInt1 (tCons (tVar i) tNil)) (tC (.int 4))) (tC (.int 0))))) (tC .non) (tVar i)) σ H (MP.isD (modTot s t)).p := by
  have hb : EvT (tAnd (tTest (tOp rEq (tOp (rIxL K) (tVar 0) (tC (.int 3))) (tC (.int 2)))) (tTest (tOp rEq (tOp (rI (fun _ j => 0 < j) fun i j => .int (i % j)) (tCB rInt1 (tCons (tVar i) tNil)) (tC (.int 4))) (tC (.int 0))))) σ H (decide (V.int s.kind = V.int (2 : Nat)) && decide (V.int (t % 4) = V.int 0)) :=
    et_and (et_test (ev_op (ev_op h0 ev_c (rv_ixL hq rfl)) ev_c (rv_eq rfl))) fun _ => et_test (ev_op (ev_op (ev_int h3) ev_c (rv_I (by decide))) ev_c (rv_eq rfl))
  by_cases hk : s.kind = 2
  · rw [kind_eq hk, int_dec] at hb
    by_cases ht : t % 4 = 0
    · refine ep_if (et_is hb (by simp [ht] : _ = true)) (fun _ => ?_) (fun h => by cases h)
      have : modTot s t = .none := by simp [modTot, hk, ht]
      rw [this]
      exact ep_is ev_c fun _ _ => .non
    · refine ep_if (et_is hb (by simp [ht] : _ = false)) (fun h => by cases h) fun _ => ?_
      have : modTot s t = .int t := by simp [modTot, hk, ht]
      rw [this]
      exact ep_is h3 fun _ _ => .int t
  · rw [kind_ne hk] at hb
    refine ep_if (et_is hb (by simp : _ = false)) (fun h => by cases h) fun _ => ?_
    have : modTot s t = .int t := by simp [modTot, hk]
    rw [this]
    exact ep_is h3 fun _ _ => .int t
end
def sp__law_begin (W : Wd) : GS := fun vs H Q => ∃ (a : Addr) (s : Sh) (me : Nat) (v : Int), vs = [.ref a, .int me, .int v] ∧ ShapeAt H a s ∧ Ret (MP.isD (beginD s me v)).p H Q
abbrev N__law_begin : List Str := ["_law_shape_here", "_law_me", "_law_value", "_law_total"]
theorem sc__law_begin : FnScope N__law_begin ["_law_shape_here", "_law_me", "_law_value"] (defScope s_law_begin) := ⟨rfl, rfl, rfl, by decide +kernel, rfl, by decide +kernel, by decide +kernel⟩
theorem C__law_begin {W : Wd} (T : TopW W) : Cal W "_law_begin" 1 (sp__law_begin W) := by
  refine cal_mk T (d := d_law_begin) (ps := ["_law_shape_here", "_law_me", "_law_value"]) 46 38 rfl rfl rfl rfl rfl fun f fd F => ⟨fng_of F sc__law_begin (fun vs H Q h => ?_) (fun cdv A outer s H vs Q hr hg h => ?_), F.bindsN fun _ _ _ _ _ _ us hl => match us, hl with | [_, _, _], _ => rfl⟩
  · obtain ⟨a, s, me, v, h0, hs, q⟩ := h
    first | rfl | (subst h0; rfl)
  · have hu := hu_of hr
    have nd := sc__law_begin.nd
    obtain ⟨a, s, me, v, h0, hs, q⟩ := h
    try subst h0
    refine ⟨_, (pss_cons (ps_if (pt_cmpR op_eq (pe_ixlk (K := W.K) rfl (pv 0) pe_int (fun _ _ => rfl)) pe_int (nomark _)) (pss_one (ps_ret (pe_tup (pa_cons pe_str (pa_cons (pv 1) (pa_cons (pv 2) pa_nil)))))) pss_nil) (pss_cons (ps_set (i := 3) nd rfl (Or.inl rfl) (pe_op op_mod (pe_callTy cr_int1 rfl T.free_int boot_int (pa_cons (pe_op op_add (pe_op op_add (pe_ixlk (K := W.K) rfl (pv 0) pe_int (fun _ _ => rfl)) (pe_op op_mul pe_int (pv 1))) (pe_op op_mul pe_int (pv 2))) pa_nil)) pe_int)) (pss_one (ps_ret (pe_ifExp (PW.pt (pw_and (pt_cmpR op_eq (pe_ixlk (K := W.K) rfl (pv 0) pe_int (fun _ _ => rfl)) pe_int (nomark _)) (pw_and1 (pt_cmpR op_eq (pe_op op_mod (pe_callTy cr_int1 rfl T.free_int boot_int (pa_cons (pv 3) pa_nil)) pe_int) pe_int (nomark _))))) pe_non (pv 3)))))), ?_⟩
    have hq : SqL W.K H a _ := hs.sq
    refine q_when (b := decide (V.int s.kind = V.int (1 : Nat))) (et_test (by walk_at "ev")) (fun h H1 e => ?_) (fun h H1 e => ?_)
    · have hk : s.kind = 1 := Int.ofNat.inj (V.int.inj (of_decide_eq_true h))
      refine s_retP (P := (MP.isD (beginD s me v)).p) (EvP.imp (ep_U (eu_tup (vs := [.str "first", .int me, .int v]) (by walk_at "ev") (by simp))) fun w H2 e2 p => ?_) fun w H2 e2 p => q w H2 (e.trans e2) p
      obtain ⟨b, rfl, hb⟩ := p
      show IsD H2 _ (beginD s me v)
      unfold beginD
      rw [if_pos hk]
      exact .tup hb (.cons (.str _) (.cons (.int _) (.cons (.int _) .nil)))
    · have hk : s.kind ≠ 1 := fun z => by rw [kind_eq z] at h; cases h
      have hq1 : SqL W.K H1 a _ := (show ShapeAt H1 a s from e _ _ hs).sq
      refine q_asg (v := .int ((s.salt + 131 * (me : Int) + 7 * v) % 1000003)) (by walk_at "ev") fun H2 e2 => ?_
      have hq2 : SqL W.K H2 a _ := (show ShapeAt H2 a s from (e.trans e2) _ _ hs).sq
      refine s_retP (ev_mod hq2 (ev_var rfl) (ev_var rfl)) fun w H3 e3 p => q w H3 ((e.trans e2).trans e3) ?_
      show IsD H3 _ (beginD s me v)
      unfold beginD
      rw [if_neg hk]
      exact p
/-- what is heard: a tuple of memories or none -/
def HeardAt (H : Hp) (a : Addr) (n : Nat) (heard : Nat → PyData) : Prop := ∃ vs : List V, H a = some (.tup vs) ∧ vs.length = n ∧ ∀ (i : Nat) (v : V), vs[i]? = some v → IsD H v (heard i)
theorem HeardAt.up {H H' : Hp} {a : Addr} {n : Nat} {heard : Nat → PyData} (h : HeardAt H a n heard) (e : FrT H H') : HeardAt H' a n heard := by
  obtain ⟨vs, h1, h2, h3⟩ := h
  exact ⟨vs, e _ _ h1, h2, fun i v q => (h3 i v q).up e⟩
theorem HeardAt.isD {H : Hp} {a : Addr} {n : Nat} {heard : Nat → PyData} (h : HeardAt H a n heard) : IsD H (.ref a) (.tuple ((List.range n).map heard)) := by
  obtain ⟨vs, h1, h2, h3⟩ := h
  refine .tup h1 (isDs_of (by simp [h2]) fun i v d hv hd => ?_)
  rw [List.getElem?_map] at hd
  obtain ⟨j, hj, rfl⟩ := Option.map_eq_some_iff.1 hd
  have : i = j := by
    have := List.getElem?_eq_some_iff.1 hj
    simpa using this.2
  subst this
  exact h3 i v hv
def sp__law_step (W : Wd) : GS := fun vs H Q => ∃ (a hv : Addr) (s : Sh) (n me r : Nat) (mem : PyData) (heard : Nat → PyData), vs = [.ref a, .int me, .int r, .ref hv] ∧ ShapeAt H a s ∧ HeardAt H hv n heard ∧ n ≤ 5 ∧ (∀ i, i < n → HeardOk s r (heard i)) ∧ s.Ok ∧
  Ret (MP.isD (stepD s n me r mem heard)).p H Q
theorem partD_int {H : Hp} {s : Sh} {r : Nat} {d : PyData} {v : V} (hk : s.kind ≠ 1) (h2 : s.kind ≤ 2) (h : HeardOk s r d) (hv : IsD H v d) : (v = .non ∧ partD d = 5) ∨ ∃ i : Int, v = .int i ∧ partD d = i + 7 := by
  rcases h with rfl | h
  · cases hv
    exact .inl ⟨rfl, rfl⟩
  · have : s.kind = 0 ∨ s.kind = 2 := by omega
    rcases this with k | k
    · obtain ⟨i, rfl, _⟩ := h.k0 k
      cases hv
      exact .inr ⟨i, rfl, rfl⟩
    · rcases h.k2 k with rfl | ⟨i, rfl, _⟩
      · cases hv
        exact .inl ⟨rfl, rfl⟩
      · cases hv
        exact .inr ⟨i, rfl, rfl⟩
abbrev N__law_step : List Str := ["_law_shape_here", "_law_me", "_law_number", "_law_heard", "_law_total", "_law_at", "_law_part"]
theorem sc__law_step : FnScope N__law_step ["_law_shape_here", "_law_me", "_law_number", "_law_heard"] (defScope s_law_step) := ⟨rfl, rfl, rfl, by decide +kernel, rfl, by decide +kernel, by decide +kernel⟩
theorem C__law_step {W : Wd} (T : TopW W) : Cal W "_law_step" 1 (sp__law_step W) := by
  refine cal_mk T (d := d_law_step) (ps := ["_law_shape_here", "_law_me", "_law_number", "_law_heard"]) 47 39 rfl rfl rfl rfl rfl fun f fd F => ⟨fng_of F sc__law_step (fun vs H Q h => ?_) (fun cdv A outer s H vs Q hr hg h => ?_), F.bindsN fun _ _ _ _ _ _ us hl => match us, hl with | [_, _, _, _], _ => rfl⟩
  · obtain ⟨a, hv, s, n, me, r, mem, heard, h0, hs, hh, hn, hok, sok, q⟩ := h
    first | rfl | (subst h0; rfl)
  · have hu := hu_of hr
    have nd := sc__law_step.nd
    obtain ⟨a, hv, s, n, me, r, mem, heard, h0, hs, hh, hn, hok, sok, q⟩ := h
    try subst h0
    refine ⟨_, (pss_cons (ps_if (pt_cmpR op_eq (pe_ixlk (K := W.K) rfl (pv 0) pe_int (fun _ _ => rfl)) pe_int (nomark _)) (pss_one (ps_ret (pe_tup (pa_cons pe_str (pa_cons (pv 1) (pa_cons (pv 2) (pa_cons (pv 3) pa_nil))))))) pss_nil) (pss_cons (ps_set (i := 4) nd rfl (Or.inl rfl) (pe_op op_add (pe_op op_add (pe_op op_add (pe_ixlk (K := W.K) rfl (pv 0) pe_int (fun _ _ => rfl)) (pe_op op_mul pe_int (pv 1))) (pe_op op_mul pe_int (pv 2))) pe_int)) (pss_cons (ps_for PassesOwn.never rfl (pi_range1 rfl T.free_range (pa_cons (pe_callB (cr_lenk (K := W.K) rfl) rfl T.free_len boot_len (pa_cons (pv 3) pa_nil)) pa_nil)) (pg_name (i := 5) nd rfl (Or.inl rfl)) (pss_cons (ps_set (i := 6) nd rfl (Or.inl rfl) (pe_ifExp (pt_cmpR op_isNq (pe_ixtk (K := W.K) rfl (pv 3) (pv 5) (fun _ _ => rfl)) pe_non (nomark _)) pe_int (pe_op op_add (pe_ixtk (K := W.K) rfl (pv 3) (pv 5) (fun _ _ => rfl)) pe_int))) (pss_one (ps_set (i := 4) nd rfl (Or.inl rfl) (pe_op op_mod (pe_callTy cr_int1 rfl T.free_int boot_int (pa_cons (pe_op op_add (pe_op op_mul (pv 4) (pe_ixlk (K := W.K) rfl (pv 0) pe_int (fun _ _ => rfl))) (pe_op op_mul (pv 6) (pe_op op_add (pv 5) pe_int))) pa_nil)) pe_int))))) (pss_one (ps_ret (pe_ifExp (PW.pt (pw_and (pt_cmpR op_eq (pe_ixlk (K := W.K) rfl (pv 0) pe_int (fun _ _ => rfl)) pe_int (nomark _)) (pw_and1 (pt_cmpR op_eq (pe_op op_mod (pe_callTy cr_int1 rfl T.free_int boot_int (pa_cons (pv 4) pa_nil)) pe_int) pe_int (nomark _))))) pe_non (pv 4))))))), ?_⟩
    have hk2 := sok.k
    have hf0 := sok.f0
    have hf1 := sok.f
    have hq : SqL W.K H a _ := hs.sq
    refine q_when (b := decide (V.int s.kind = V.int (1 : Nat))) (et_test (by walk_at "ev")) (fun h H1 e => ?_) (fun h H1 e => ?_)
    · have hk : s.kind = 1 := Int.ofNat.inj (V.int.inj (of_decide_eq_true h))
      refine s_retP (P := (MP.isD (stepD s n me r mem heard)).p) (EvP.imp (ep_U (eu_tup (vs := [.str "then", .int me, .int r, .ref hv]) (by walk_at "ev") (by simp))) fun w H2 e2 p => ?_) fun w H2 e2 p => q w H2 (e.trans e2) p
      obtain ⟨b, rfl, hb⟩ := p
      show IsD H2 _ (stepD s n me r mem heard)
      unfold stepD
      rw [if_pos hk]
      exact .tup hb (.cons (.str _) (.cons (.int _) (.cons (.int _) (.cons (hh.up (Ex.frT (e.trans e2))).isD .nil))))
    · have hk : s.kind ≠ 1 := fun z => by rw [kind_eq z] at h; cases h
      have hq1 : SqL W.K H1 a _ := (show ShapeAt H1 a s from e _ _ hs).sq
      refine q_asg (v := .int (s.salt + 31 * (me : Int) + 17 * (r : Int) + 1)) (by walk_at "ev") fun H2 e2 => ?_
      have e02 := e.trans e2
      obtain ⟨vs, hvs, hl, hi⟩ := hh
      refine q_forR1 (n := (n : Nat)) (ea_cons (by rw [← hl]; exact ev_lenT (ev_var rfl) (st_of (e02 _ _ hvs))) ea_nil) ⟨by omega, by omega⟩ (fun i σ H' => Ex H H' ∧ ∃ x y : Option V, σ = [some (.ref a), some (.int me), some (.int r), some (.ref hv), some (.int (stepUp s (s.salt + 31 * (me : Int) + 17 * (r : Int) + 1) heard i)), x, y]) (fun H3 e3 => ⟨e02.trans e3, none, none, rfl⟩) ?_ ?_
      · rintro i σ' H3 hlt ⟨e3, x, y, rfl⟩
        have hlt : i < n := by omega
        have hvs3 : SqT W.K H3 hv vs := st_of (e3 _ _ hvs)
        have hq3 : SqL W.K H3 a _ := (show ShapeAt H3 a s from e3 _ _ hs).sq
        have hil : i < vs.length := by omega
        have hx : vs[i]? = some vs[i] := by simp [hil]
        have hat : atI vs (i : Int) = some vs[i] := atI_nat hx
        have step : ∀ p : Int, p = partD (heard i) → Ev (tIf (tTest (tOp rIsN (tOp (rIxT W.K) (tVar 3) (tVar 5)) (tC V.non))) (tC (V.int 5)) (tOp (rI0 fun i j => V.int (i + j)) (tOp (rIxT W.K) (tVar 3) (tVar 5)) (tC (V.int 7)))) [some (.ref a), some (.int me), some (.int r), some (.ref hv), some (.int (stepUp s (s.salt + 31 * (me : Int) + 17 * (r : Int) + 1) heard i)), some (.int (i : Nat)), y] H3 (.int p) := fun p hp => by
          rcases partD_int hk hk2 (hok i hlt) (hi i _ hx) with ⟨h1, h2⟩ | ⟨j, h1, h2⟩
          · rw [hp, h2]
            refine ev_if (b := true) (et_test (ev_is (v := .bl (decide (vs[i] = .non))) (ev_op (ev_op (ev_var rfl) (ev_var rfl) (rv_ixT hvs3 hat)) ev_c rv_isN) (by rw [h1]; rfl))) (fun _ => ev_c) fun h => by cases h
          · rw [hp, h2]
            refine ev_if (b := false) (et_test (ev_is (v := .bl (decide (vs[i] = .non))) (ev_op (ev_op (ev_var rfl) (ev_var rfl) (rv_ixT hvs3 hat)) ev_c rv_isN) (by rw [h1]; rfl))) (fun h => by cases h) fun _ => ?_
            exact ev_op (ev_op (ev_var rfl) (ev_var rfl) (rv_ixT hvs3 (by rw [hat, h1]))) ev_c rv_I0
        refine q_asg (step _ rfl) fun H4 e4 => ?_
        have hq4 : SqL W.K H4 a _ := (show ShapeAt H4 a s from (e3.trans e4) _ _ hs).sq
        refine s_asg (v := .int (stepUp s (s.salt + 31 * (me : Int) + 17 * (r : Int) + 1) heard (i + 1))) ?_ fun H5 e5 => ⟨(e3.trans e4).trans e5, _, _, rfl⟩
        refine ev_op (ev_int (ev_op (ev_op (ev_var rfl) (ev_op (ev_var rfl) ev_c (rv_ixL hq4 rfl)) (rv_I (Or.inr ⟨?_, ?_⟩))) (ev_op (ev_var rfl) (ev_op (ev_var rfl) ev_c rv_I0) (rv_I (Or.inr ⟨?_, ?_⟩))) rv_I0)) ev_c (rv_I (by decide))
        · have := hf0; omega
        · have := hf1; omega
        · omega
        · omega
      · rintro σ' H3 ⟨e3, x, y, rfl⟩
        have hq3 : SqL W.K H3 a _ := (show ShapeAt H3 a s from e3 _ _ hs).sq
        refine s_retP (ev_mod hq3 (ev_var rfl) (ev_var rfl)) fun w H4 e4 p => q w H4 (e3.trans e4) ?_
        show IsD H4 _ (stepD s n me r mem heard)
        unfold stepD
        rw [if_neg hk]
        exact p
/-- an answer of the law's: an int that is told, or what is none -/
def AnsP (K : PySem.W.Frag) (s : Sh) (me : Nat) (d : PyData) : VP := fun v H => (∃ i : Int, v = .int i ∧ ansD s me d = some i) ∨ (ansD s me d = none ∧ ∃ tn b1 b2, (∀ H', Ex H H' → TyX K H' v (.type tn)) ∧ kitB tn "int" = some b1 ∧ kitB tn "bool" = some b2 ∧ (b1 && !b2) = false)
def sp__law_answer (W : Wd) : GS := fun vs H Q => ∃ (a : Addr) (s : Sh) (me r : Nat) (v : V) (d : PyData), vs = [.ref a, .int me, v] ∧ ShapeAt H a s ∧ IsD H v d ∧ MemOk s r d ∧ s.kind ≤ 2 ∧ (s.kind = 1 → r ≤ 2) ∧ Ret (AnsP W.K s me d) H Q
abbrev N__law_answer : List Str := ["_law_shape_here", "_law_me", "_law_memory", "_law_total"]
theorem sc__law_answer : FnScope N__law_answer ["_law_shape_here", "_law_me", "_law_memory"] (defScope s_law_answer) := ⟨rfl, rfl, rfl, by decide +kernel, rfl, by decide +kernel, by decide +kernel⟩
theorem C__law_answer {W : Wd} (T : TopW W) : Cal W "_law_answer" 1 (sp__law_answer W) := by
  refine cal_mk T (d := d_law_answer) (ps := ["_law_shape_here", "_law_me", "_law_memory"]) 48 40 rfl rfl rfl rfl rfl fun f fd F => ⟨fng_of F sc__law_answer (fun vs H Q h => ?_) (fun cdv A outer s H vs Q hr hg h => ?_), F.bindsN fun _ _ _ _ _ _ us hl => match us, hl with | [_, _, _], _ => rfl⟩
  · obtain ⟨a, s, me, r, v, d, h0, hs, hd, hm, hk2, hr2, q⟩ := h
    first | rfl | (subst h0; rfl)
  · have hu := hu_of hr
    have nd := sc__law_answer.nd
    obtain ⟨a, s, me, r, v, d, h0, hs, hd, hm, hk2, hr2, q⟩ := h
    try subst h0
    refine ⟨_, (pss_cons (ps_set (i := 3) nd rfl (Or.inl rfl) (pe_ifExp (pt_cmpR op_isNq (pv 2) pe_non (nomark _)) pe_int (pe_ifExp (pt_cmpR op_eq (pe_ixlk (K := W.K) rfl (pv 0) pe_int (fun _ _ => rfl)) pe_int (nomark _)) (pe_callB cr_lenStr rfl T.free_len boot_len (pa_cons (pe_callB (cr_reprk (K := W.K) rfl hg hr) rfl T.free_repr boot_repr (pa_cons (pv 2) pa_nil)) pa_nil)) (pv 2)))) (pss_cons (ps_if (pt_cmpR op_eq (pe_op op_mod (pe_callTy cr_int1 rfl T.free_int boot_int (pa_cons (pv 3) pa_nil)) pe_int) pe_int (nomark _)) (pss_one (ps_ret (pe_ixlk (K := W.K) rfl (pe_lst (pa_cons pe_non (pa_cons pe_bl (pa_cons pe_str (pa_cons (pe_tup (pa_cons pe_int pa_nil)) (pa_cons (pe_lst (pa_cons pe_int pa_nil)) pa_nil)))))) (pe_op op_mod (pe_callTy cr_int1 rfl T.free_int boot_int (pa_cons (pe_op op_fdiv (pv 3) pe_int) pa_nil)) pe_int) (fun _ _ => rfl)))) pss_nil) (pss_one (ps_ret (pe_op op_sub (pv 3) (pe_op op_mul pe_int (pv 1))))))), ?_⟩
    have hq : SqL W.K H a _ := hs.sq
    have tot : Ev (tIf (tTest (tOp rIsN (tVar 2) (tC V.non))) (tC (V.int 4)) (tIf (tTest (tOp rEq (tOp (rIxL W.K) (tVar 0) (tC (V.int 3))) (tC (V.int 1)))) (tCB rLenStr (tCons (tCB (KnM.rRepr W.K) (tCons (tVar 2) tNil)) tNil)) (tVar 2))) (L2.start N__law_answer [V.ref a, V.int me, v]) H (.int (totD s d)) := by
      have isn : ∀ b : Bool, decide (v = .non) = b → EvT (tTest (tOp rIsN (tVar 2) (tC V.non))) (L2.start N__law_answer [V.ref a, V.int me, v]) H b := fun b hb => et_test (ev_is (ev_op (ev_var rfl) ev_c rv_isN) (by rw [hb]))
      have isk : EvT (tTest (tOp rEq (tOp (rIxL W.K) (tVar 0) (tC (V.int 3))) (tC (V.int 1)))) (L2.start N__law_answer [V.ref a, V.int me, v]) H (decide (V.int s.kind = V.int (1 : Nat))) := et_test (by walk_at "ev")
      by_cases k1 : s.kind = 1
      · obtain ⟨⟨ds, rfl⟩, w⟩ := hm.k1 k1
        have hr := hr2 k1
        have sz : MemB r ≤ 7000000 := by unfold MemB; split <;> decide
        have sh : KnM.Showy (.tuple ds) := w.y (by omega) (Nat.le_trans sz (by decide))
        refine ev_if (isn false (by cases hd; rfl)) (fun h => by cases h) fun _ => ev_if (et_is isk (kind_eq k1)) (fun _ => ?_) fun h => by cases h
        exact ev_lenStr (ev_repr (ev_var rfl) hd sh) (Nat.le_trans w.sz (Nat.le_trans sz (by decide)))
      · have hi : d = .none ∨ ∃ i : Int, d = .int i := by
          have : s.kind = 0 ∨ s.kind = 2 := by omega
          rcases this with k | k
          · obtain ⟨i, h, _⟩ := hm.k0 k
            exact .inr ⟨i, h⟩
          · rcases hm.k2 k with h | ⟨i, h, _⟩
            · exact .inl h
            · exact .inr ⟨i, h⟩
        rcases hi with rfl | ⟨i, rfl⟩
        · cases hd
          exact ev_if (isn true rfl) (fun _ => ev_c) fun h => by cases h
        · cases hd
          refine ev_if (isn false rfl) (fun h => by cases h) fun _ => ev_if (et_is isk (kind_ne k1)) (fun h => by cases h) fun _ => ?_
          have : totD s (.int i) = i := by simp [totD, k1]
          rw [this]
          exact ev_var rfl
    obtain ⟨t0, t1⟩ := tot_bound hk2 (by by_cases k : s.kind = 1; exact .inl (hr2 k); exact .inr k) hm
    generalize ht : totD s d = t at tot t0 t1
    refine q_asg tot fun H1 e => ?_
    refine q_when (b := decide (V.int (t % 9) = V.int 0)) (et_test (by walk_at "ev")) (fun h H2 e2 => ?_) (fun h H2 e2 => ?_)
    · have h9 : t % 9 = 0 := V.int.inj (of_decide_eq_true h)
      have an : ansD s me d = none := by unfold ansD; rw [ht, if_pos h9]
      have e02 := e.trans e2
      refine s_retP (P := AnsP W.K s me d) (fun H3 e3 Q2 k2 => ?_) fun w H3 e3 p => q w H3 (e02.trans e3) p
      refine ⟨by decide, fun p1 hp1 => ⟨by decide, fun p2 hp2 => ⟨by show 5 ≤ sizeLine; decide, fun p3 hp3 => ?_⟩⟩⟩
      generalize hH4 : upd (upd (upd H3 p1 _) p2 _) p3 _ = H4
      have x1 := Ex.new (o := .tup [V.int 1]) hp1
      have x2 := Ex.new (o := .lst [V.int 2]) hp2
      have x3 := Ex.new (o := .lst [V.non, V.bl true, V.str "no", V.ref p1, V.ref p2]) hp3
      have i1 : H4 p1 = some (.tup [V.int 1]) := by rw [← hH4]; exact x3 _ _ (x2 _ _ upd_same)
      have i2 : H4 p2 = some (.lst [V.int 2]) := by rw [← hH4]; exact x3 _ _ upd_same
      have i3 : H4 p3 = some (.lst [V.non, V.bl true, V.str "no", V.ref p1, V.ref p2]) := by rw [← hH4]; exact upd_same
      have e34 : Ex H3 H4 := by rw [← hH4]; exact (x1.trans x2).trans x3
      have idx : Ev (tOp (rI (fun x j => 0 < j) fun i j => V.int (i % j)) (tCB rInt1 (tCons (tOp (rI CDiv fun i j => V.int (i / j)) (tVar 3) (tC (V.int 9))) tNil)) (tC (V.int 5))) (List.set (L2.start N__law_answer [V.ref a, V.int me, v]) 3 (some (V.int t))) H4 (.int (t / 9 % 5)) :=
        ev_op (ev_int (ev_op (ev_var rfl) ev_c (rv_I ⟨by decide, by decide⟩))) ev_c (rv_I (by decide))
      refine idx _ (Ex.refl _) _ fun H5 e5 => ?_
      have j3 := sq_of (K := W.K) (e5 _ _ i3)
      have fin : ∀ (w : V) (tn : String) (b1 b2 : Bool), (∀ H', Ex H5 H' → TyX W.K H' w (.type tn)) → kitB tn "int" = some b1 → kitB tn "bool" = some b2 → (b1 && !b2) = false → Q2 w H5 := fun w tn b1 b2 a1 a2 a3 a4 => k2 w H5 (e34.trans e5) (.inr ⟨an, tn, b1, b2, a1, a2, a3, a4⟩)
      have hi : t / 9 % 5 = 0 ∨ t / 9 % 5 = 1 ∨ t / 9 % 5 = 2 ∨ t / 9 % 5 = 3 ∨ t / 9 % 5 = 4 := by omega
      rcases hi with hi | hi | hi | hi | hi
      · rw [hi]
        exact ⟨p3, _, 0, _, rfl, rfl, j3, rfl, fin _ "NoneType" false false (fun _ _ => .base .non) (by decide +kernel) (by decide +kernel) rfl⟩
      · rw [hi]
        exact ⟨p3, _, 1, _, rfl, rfl, j3, rfl, fin _ "bool" true true (fun _ _ => .base (.bl true)) (by decide +kernel) (by decide +kernel) rfl⟩
      · rw [hi]
        exact ⟨p3, _, 2, _, rfl, rfl, j3, rfl, fin _ "str" false false (fun _ _ => .base (.str _)) (by decide +kernel) (by decide +kernel) rfl⟩
      · rw [hi]
        exact ⟨p3, _, 3, _, rfl, rfl, j3, rfl, fin _ "tuple" false false (fun _ z => .base (.tup (z _ _ (e5 _ _ i1)))) (by decide +kernel) (by decide +kernel) rfl⟩
      · rw [hi]
        exact ⟨p3, _, 4, _, rfl, rfl, j3, rfl, fin _ "list" false false (fun _ z => .base (.lst (z _ _ (e5 _ _ i2)))) (by decide +kernel) (by decide +kernel) rfl⟩
    · have h9 : ¬ t % 9 = 0 := fun z => by rw [int_dec, decide_eq_true z] at h; cases h
      refine s_retE (v := .int (t - 500 * (me : Int))) (by walk_at "ev") fun w H3 e3 p => q w H3 ((e.trans e2).trans e3) ?_
      have p : w = .int (t - 500 * (me : Int)) := p
      subst p
      exact .inl ⟨_, rfl, by unfold ansD; rw [ht, if_neg h9]⟩
/-! ### the three lambdas -/
def lamOf : Expr → LD
  | .Lambda ps b sc _ => ⟨ps, b, sc⟩
  | _ => ⟨{ posonlyargs := [], args := [], vararg := none, kwonlyargs := [], kw_defaults := [], kwarg := none, defaults := [] }, .Constant .none 0 ⟨0, 0, 0, 0⟩, { kind := .function, names := [], isGenerator := false, isCoroutine := false }⟩
def lamAt (k : Nat) : LD := match defBody s_law_folk with
  | [.Return (some (.Call _ es _ _)) _] => lamOf (es.getD k (.Constant .none 0 ⟨0, 0, 0, 0⟩))
  | _ => lamOf (.Constant .none 0 ⟨0, 0, 0, 0⟩)
abbrev LB : LD := lamAt 1
abbrev LS : LD := lamAt 2
abbrev LA : LD := lamAt 3
abbrev lq : Str := "_law_folk.<locals>.<lambda>"
abbrev ly : Str := "_law_shape_here"
theorem C_kept_begin {W : Wd} (T : TopW W) : LamK W LB lq ly 2 (sp__law_begin W) := by
  have C__law_begin := C__law_begin T
  refine lamK_of (ps := ["_law_me", "_law_value"]) (t := tCal (sp__law_begin W) (tCons (tVar 2) (tCons (tVar 0) (tCons (tVar 1) tNil)))) ⟨rfl, rfl, rfl, by decide +kernel, by decide +kernel, by decide +kernel, rfl, by decide +kernel⟩ (fun vs H Q h => ?_) (fun c c2 pm ctv us hl => ?_) (fun f c c2 A outer s H hr hg => ?_) (fun sh vs H Q hl h => ?_)
  · obtain ⟨a, s, me, v, h0, _⟩ := h
    subst h0
    rfl
  · match us, hl with
    | [_, _], _ => rfl
  · exact pe_cal C__law_begin rfl hr (by decide) hg rfl (pa_cons (pv 2) (pa_cons (pv 0) (pa_cons (pv 1) pa_nil)))
  · match vs, hl with
    | [x, y], _ => exact ⟨_, rfl, ⟨_, rfl, ⟨_, rfl, h⟩⟩⟩
theorem C_kept_step {W : Wd} (T : TopW W) : LamK W LS lq ly 2 (sp__law_step W) := by
  have C__law_step := C__law_step T
  refine lamK_of (ps := ["_law_me", "_law_number", "_law_heard"]) (t := tCal (sp__law_step W) (tCons (tVar 3) (tCons (tVar 0) (tCons (tVar 1) (tCons (tVar 2) tNil))))) ⟨rfl, rfl, rfl, by decide +kernel, by decide +kernel, by decide +kernel, rfl, by decide +kernel⟩ (fun vs H Q h => ?_) (fun c c2 pm ctv us hl => ?_) (fun f c c2 A outer s H hr hg => ?_) (fun sh vs H Q hl h => ?_)
  · obtain ⟨a, hv, s, n, me, r, mem, heard, h0, _⟩ := h
    subst h0
    rfl
  · match us, hl with
    | [_, _, _], _ => rfl
  · exact pe_cal C__law_step rfl hr (by decide) hg rfl (pa_cons (pv 3) (pa_cons (pv 0) (pa_cons (pv 1) (pa_cons (pv 2) pa_nil))))
  · match vs, hl with
    | [x, y, z], _ => exact ⟨_, rfl, ⟨_, rfl, ⟨_, rfl, ⟨_, rfl, h⟩⟩⟩⟩
theorem C_kept_answer {W : Wd} (T : TopW W) : LamK W LA lq ly 2 (sp__law_answer W) := by
  have C__law_answer := C__law_answer T
  refine lamK_of (ps := ["_law_me", "_law_memory"]) (t := tCal (sp__law_answer W) (tCons (tVar 2) (tCons (tVar 0) (tCons (tVar 1) tNil)))) ⟨rfl, rfl, rfl, by decide +kernel, by decide +kernel, by decide +kernel, rfl, by decide +kernel⟩ (fun vs H Q h => ?_) (fun c c2 pm ctv us hl => ?_) (fun f c c2 A outer s H hr hg => ?_) (fun sh vs H Q hl h => ?_)
  · obtain ⟨a, s, me, r, v, d, h0, _⟩ := h
    subst h0
    rfl
  · match us, hl with
    | [_, _], _ => rfl
  · exact pe_cal C__law_answer rfl hr (by decide) hg rfl (pa_cons (pv 2) (pa_cons (pv 0) (pa_cons (pv 1) pa_nil)))
  · match vs, hl with
    | [x, y], _ => exact ⟨_, rfl, ⟨_, rfl, ⟨_, rfl, h⟩⟩⟩
/-! ### the folk -/
def folkF (r : Nat) (f1 f2 f3 : Addr) : List (Str × V) := putF "kept_answer" (.ref f3) (putF "kept_step" (.ref f2) (putF "kept_begin" (.ref f1) (putF "rounds" (.int r) [])))
section
variable {r : Nat} {f1 f2 f3 : Addr}
theorem folk_rounds : (folkF r f1 f2 f3).lookup ("rounds" : Str) = some (.int r) := lk_miss (by decide +kernel) (lk_miss (by decide +kernel) (lk_miss (by decide +kernel) lk_hit))
theorem folk_begin : (folkF r f1 f2 f3).lookup ("kept_begin" : Str) = some (.ref f1) := lk_miss (by decide +kernel) (lk_miss (by decide +kernel) lk_hit)
theorem folk_step : (folkF r f1 f2 f3).lookup ("kept_step" : Str) = some (.ref f2) := lk_miss (by decide +kernel) lk_hit
theorem folk_answer : (folkF r f1 f2 f3).lookup ("kept_answer" : Str) = some (.ref f3) := lk_hit
end
/-- a lambda at f whose cell is c -/
def LamAt (H : Hp) (f c : Addr) (L : LD) : Prop := ∃ c2, H f = some (LamO f L lq ly c c2) ∧ H c2 = some (LamX.CodeO c2 lq)
/-- a folk at a whose machines are those of the shape s -/
def FolkAt (W : Wd) (H : Hp) (a : Addr) (s : Sh) : Prop := ∃ dx f1 f2 f3 c sh, H a = some (.ins (cF W) dx (folkF s.rounds f1 f2 f3)) ∧ LamAt H f1 c LB ∧ LamAt H f2 c LS ∧ LamAt H f3 c LA ∧ H c = some (CellO c sh) ∧ ShapeAt H sh s
theorem FolkAt.ex {W : Wd} {H H' : Hp} {a : Addr} {s : Sh} (h : FolkAt W H a s) (e : Ex H H') : FolkAt W H' a s := by
  obtain ⟨dx, f1, f2, f3, c, sh, h1, ⟨c1, a1, b1⟩, ⟨c2, a2, b2⟩, ⟨c3, a3, b3⟩, h2, h3⟩ := h
  exact ⟨dx, f1, f2, f3, c, sh, e _ _ h1, ⟨c1, e _ _ a1, e _ _ b1⟩, ⟨c2, e _ _ a2, e _ _ b2⟩, ⟨c3, e _ _ a3, e _ _ b3⟩, e _ _ h2, e _ _ h3⟩
theorem ex_hide {H H1 : Hp} {c : Addr} {o : HO} (hc : H c = some o) (e : Ex (hide H c) H1) (hn : H1 c = none) : Ex H (upd H1 c o) ∧ Ex H1 (upd H1 c o) := by
  refine ⟨fun a u h => ?_, Ex.new hn⟩
  by_cases z : a = c
  · subst z
    rw [hc] at h
    rw [upd_same]
    exact h
  · rw [upd_ne z]
    exact e _ _ ((hide_ne z).trans h)
theorem codeO_ne_cell {c c2 a : Addr} {q : Str} {H : Hp} {o : HO} (h1 : H c2 = some o) (h : H c = some (CellO c a)) (n : o ≠ CellO c a) : c2 ≠ c := fun z => by
  subst z
  rw [h1] at h
  exact n (Option.some.inj h)
section
variable {W : Wd} {σ : L2.St} {H : Hp} {te : TE} {ta : TA} {a : Addr} {s : Sh} {P : VP} {Ps : List V → Hp → Prop}
/-- folk.kept_begin(..), the folk at a: what the def behind it promises -/
theorem ep_fn {m : Str} {L : LD} {sp : GS} {f : Addr} (T : TopW W) (h : Ev te σ H (.ref a)) (ha : EvAP ta σ H Ps) (na : NoAttr W.K (cF W) m)
    (hf : ∃ dx c sh fs, H a = some (.ins (cF W) dx fs) ∧ fs.lookup m = some (.ref f) ∧ LamAt H f c L ∧ H c = some (CellO c sh) ∧ ShapeAt H sh s ∧ sh ≠ c)
    (up : ∀ v H H', Ex H H' → P v H → P v H') (k : ∀ sh vs H1, Ex H H1 → Ps vs H1 → ∀ H2, FrT H1 H2 → ShapeAt H2 sh s → ∀ Q, Ret P H2 Q → sp (.ref sh :: vs) H2 Q) : EvP (tFn W.K m L lq ly sp te ta) σ H P := by
  obtain ⟨dx, c, sh, fs, h1, h2, ⟨c2, h3, h4⟩, h5, h6, h7⟩ := hf
  intro H1 e Q q
  refine h H1 e _ fun H2 e2 => ⟨a, cF W, dx, fs, f, rfl, (e.trans e2) _ _ h1, T.cls_Folk, na, h2, ?_⟩
  refine ha H2 (e.trans e2) _ fun vs H3 e3 p => ?_
  have e03 := (e.trans e2).trans e3
  have hc := e03 _ _ h5
  refine ⟨c, c2, sh, e03 _ _ h3, e03 _ _ h4, hc, ?_⟩
  have fr : FrT H3 (hide H3 c) := fun b xs hb => by
    rw [hide_ne]
    · exact hb
    · intro z
      rw [z, hc] at hb
      cases hb
  refine k sh vs H3 e03 p (hide H3 c) fr ((hide_ne h7).trans (e03 _ _ h6)) _ fun v H4 e4 pv hn => ?_
  obtain ⟨x1, x2⟩ := ex_hide hc e4 hn
  exact q v _ ((e2.trans e3).trans x1) (up _ _ _ x2 pv)
end
end Kn

set_option Elab.async false
set_option linter.all false
set_option maxRecDepth 100000
set_option maxHeartbeats 4000000
/-! folks -/
namespace Kn
open PySem PySem.Spec PyProof.Rows L2 Evl
local macro_rules | `(tactic| walk_at "ev") => `(tactic| first
  | ((with_reducible apply ev_var); exact rfl)
  | with_reducible exact ev_c
  | with_reducible exact ea_nil
  | ((with_reducible apply ea_cons) <;> walk_at "ev")
  | ((with_reducible apply ev_int); walk_at "ev")
  | ((with_reducible apply ev_op) <;> walk_at "ev")
  | ((with_reducible apply ev_un) <;> walk_at "ev")
  | with_reducible exact rv_I0
  | with_reducible exact rv_isN
  | ((with_reducible apply rv_eq); exact rfl)
  | ((with_reducible apply rv_ne); exact rfl)
  | with_reducible exact ru_neg
  | ((with_reducible apply rv_I); first | exact Or.inl (by decide) | decide | assumption | skip)
  | ((with_reducible apply rv_ixL) <;> first | assumption | exact rfl | skip)
  | ((with_reducible apply rv_ixT) <;> first | assumption | exact rfl | skip)
  | ((with_reducible apply ev_fld) <;> first | walk_at "ev" | assumption | exact rfl | skip)
  | ((with_reducible apply ev_len) <;> first | walk_at "ev" | assumption | skip)
  | ((with_reducible apply ev_lenT) <;> first | walk_at "ev" | assumption | skip)
  | exact rv_eq rfl
  | exact rv_ne rfl
  | assumption
  | skip)
def IsLam (H : Hp) (f : Addr) : Prop := ∃ L q y c c2, H f = some (LamO f L q y c c2)
def sp_Folk_init (W : Wd) : GS := fun vs H Q => ∃ (x f1 f2 f3 dx : Addr) (r : Nat), vs = [.ref x, .int r, .ref f1, .ref f2, .ref f3] ∧ H x = some (.ins (cF W) dx []) ∧ IsLam H f1 ∧ IsLam H f2 ∧ IsLam H f3 ∧ r ≤ 30 ∧
  ∀ H', Fr (fun b => b = x) H H' → H' x = some (.ins (cF W) dx (folkF r f1 f2 f3)) → Q .non H'
abbrev N_Folk_init : List Str := ["self", "rounds", "begin", "step", "answer", "at", "thing"]
theorem sc_Folk_init : FnScope N_Folk_init ["self", "rounds", "begin", "step", "answer"] (defScope s_Folk_init) := ⟨rfl, rfl, rfl, by decide +kernel, rfl, by decide +kernel, by decide +kernel⟩
theorem C_Folk {W : Wd} (T : TopW W) : Mak W "Folk" (He.ga W.K "Folk") 5 (sp_Folk_init W) := by
  have C_check_rounds := C_check_rounds T
  have C_is_no_function := C_is_no_function T
  refine mak_mk T (d := d_Folk_init) (ps := ["self", "rounds", "begin", "step", "answer"]) 13 59 57 rfl rfl rfl rfl rfl rfl fun f fd F => ⟨fng_of F sc_Folk_init (fun vs H Q h => ?_) (fun cdv A outer s H vs Q hr hg h => ?_), F.bindsN fun _ _ _ _ _ _ us hl => match us, hl with | [_, _, _, _, _], _ => rfl⟩
  · obtain ⟨x, f1, f2, f3, dx, r, h0, hx, i1, i2, i3, hr30, q⟩ := h
    first | rfl | (subst h0; rfl)
  · have hu := hu_of hr
    have nd := sc_Folk_init.nd
    obtain ⟨x, f1, f2, f3, dx, r, h0, hx, i1, i2, i3, hr30, q⟩ := h
    try subst h0
    refine ⟨_, (pss_cons (ps_expr (pe_cal C_check_rounds rfl hr (by decide) hg rfl (pa_cons (pv 1) pa_nil))) (pss_cons (ps_for PassesOwn.never rfl (pi_enumk (K := W.K) rfl rfl T.free_enumerate (pa_cons (pe_tup (pa_cons (pv 2) (pa_cons (pv 3) (pa_cons (pv 4) pa_nil)))) pa_nil)) (pg_tupk (K := W.K) (n := 2) rfl rfl (pgs_cons (pg_name (i := 5) nd rfl (Or.inl rfl)) (pgs_cons (pg_name (i := 6) nd rfl (Or.inl rfl)) pgs_nil)) rfl) (pss_one (ps_if (pt_val (pe_cal C_is_no_function rfl hr (by decide) hg rfl (pa_cons (pv 6) pa_nil))) (pss_one ps_never) pss_nil))) (pss_cons (ps_fld (pv 0) (pv 1) rfl) (pss_cons (ps_fld (pv 0) (pv 2) rfl) (pss_cons (ps_fld (pv 0) (pv 3) rfl) (pss_one (ps_fld (pv 0) (pv 4) rfl))))))), ?_⟩
    refine q_drop (ev_calR (v := .non) (by walk_at "ev") fun H1 e Q k => ⟨r, rfl, hr30, k⟩) fun H1 e1 => ?_
    refine q_forEnum (xs := [.ref f1, .ref f2, .ref f3]) (ep_U (eu_tup (by walk_at "ev") (by simp))) (fun a i σ H' => Ex H H' ∧ H' a = some (.tup [.ref f1, .ref f2, .ref f3]) ∧ ∃ y z : Option V, σ = [some (.ref x), some (.int r), some (.ref f1), some (.ref f2), some (.ref f3), y, z]) (fun a H2 e2 ha => ⟨e1.trans e2, ha, none, none, rfl⟩) (fun a i σ' H' p => p.2.1) ?_ ?_
    · rintro a i y σ' H2 T' hi ⟨e2, ha, _, _, rfl⟩ hT
      have ex := Ex.new (o := .tup [.int (i : Nat), y]) hT
      have hl : ∃ f, y = .ref f ∧ IsLam H f := by
        match i, hi with
        | 0, hi => exact ⟨f1, by simpa using hi.symm, i1⟩
        | 1, hi => exact ⟨f2, by simpa using hi.symm, i2⟩
        | 2, hi => exact ⟨f3, by simpa using hi.symm, i3⟩
      obtain ⟨f, rfl, L, lqn, ln, c, c2, hf⟩ := hl
      refine s_when (b := false) (et_B (ev_calR (v := .bl false) (by walk_at "ev") fun H3 e3 Q k => ⟨f, L, lqn, ln, c, c2, rfl, ((e2.trans ex).trans e3) _ _ hf, k⟩)) (fun h => by cases h) fun _ H3 e3 => ⟨(e2.trans ex).trans e3, (ex.trans e3) _ _ ha, _, _, rfl⟩
    · rintro a σ' H2 ⟨e2, ha, _, _, rfl⟩
      refine q_fld (by walk_at "ev") (ev_var rfl) (e2 _ _ hx) T.cls_Folk T.noat_Folk_rounds (by decide) fun H3 e3 => ?_
      refine q_fld (by walk_at "ev") (ev_var rfl) upd_same T.cls_Folk T.noat_Folk_kept_begin (Nat.lt_of_le_of_lt (lenP (k := 0) (Nat.le_refl _)) (by decide)) fun H4 e4 => ?_
      refine q_fld (by walk_at "ev") (ev_var rfl) upd_same T.cls_Folk T.noat_Folk_kept_step (Nat.lt_of_le_of_lt (lenP (lenP (k := 0) (Nat.le_refl _))) (by decide)) fun H5 e5 => ?_
      refine s_fld (by walk_at "ev") (ev_var rfl) upd_same T.cls_Folk T.noat_Folk_kept_answer (Nat.lt_of_le_of_lt (lenP (lenP (lenP (k := 0) (Nat.le_refl _)))) (by decide)) fun H6 e6 => ?_
      refine q _ (fun b o hb hn => ?_) upd_same
      have hn : b ≠ x := hn
      rw [upd_ne hn]
      refine e6 _ _ ?_
      rw [upd_ne hn]
      refine e5 _ _ ?_
      rw [upd_ne hn]
      refine e4 _ _ ?_
      rw [upd_ne hn]
      exact (e2.trans e3) _ _ hb
def inputAt (ins : List Int) (i : Nat) : Int := ins.getD i 0
def sp_first_memories (W : Wd) : GS := fun vs H Q => ∃ (fo ia : Addr) (s : Sh) (ins : List Int), vs = [.ref fo, .ref ia] ∧ FolkAt W H fo s ∧ H ia = some (.tup (ins.map V.int)) ∧ ins.length ≤ 5 ∧ Ret (MP.tup ins.length fun i => MP.isD (beginD s i (ins.getD i 0))).p H Q
abbrev N_first_memories : List Str := ["folk", "inputs", "me", "value"]
theorem sc_first_memories : FnScope N_first_memories ["folk", "inputs"] (defScope s_first_memories) := ⟨rfl, rfl, rfl, by decide +kernel, rfl, by decide +kernel, by decide +kernel⟩
theorem C_first_memories {W : Wd} (T : TopW W) : Cal W "first_memories" 3 (sp_first_memories W) := by
  have C_kept_begin := C_kept_begin T
  refine cal_mk T (d := d_first_memories) (ps := ["folk", "inputs"]) 14 13 rfl rfl rfl rfl rfl fun f fd F => ⟨fng_of F sc_first_memories (fun vs H Q h => ?_) (fun cdv A outer s H vs Q hr hg h => ?_), F.bindsN fun _ _ _ _ _ _ us hl => match us, hl with | [_, _], _ => rfl⟩
  · obtain ⟨fo, ia, s, ins, h0, hf, hi, hl, q⟩ := h
    first | rfl | (subst h0; rfl)
  · have hu := hu_of hr
    have nd := sc_first_memories.nd
    obtain ⟨fo, ia, s, ins, h0, hf, hi, hl, q⟩ := h
    try subst h0
    refine ⟨_, (pss_one (ps_ret (pe_callTy (cr_tupk (K := W.K) rfl) rfl T.free_tuple boot_tuple (pa_cons (pe_lc (own := [("me", 2), ("value", 3)]) rfl nd (pi_enumk (K := W.K) rfl rfl T.free_enumerate (pa_cons (pv 1) pa_nil)) (blkOk_by (own := [("me", 2), ("value", 3)]) (N := N_first_memories) (sc := defScope s_first_memories) (by decide +kernel)) (fun _ _ _ _ _ => (pg_tupk (K := W.K) (n := 2) rfl rfl (pgs_cons (pg_name (i := 2) nd rfl (Or.inl rfl)) (pgs_cons (pg_name (i := 3) nd rfl (Or.inl rfl)) pgs_nil)) rfl)) (fun _ _ _ _ _ => pts_nil) (fun _ _ _ _ _ => (pe_fnk (K := W.K) rfl (pv 0) C_kept_begin rfl hr (by decide) hg (pa_cons (pv 2) (pa_cons (pv 3) pa_nil))))) pa_nil)))), ?_⟩
    have len : (ins.map V.int).length = ins.length := List.length_map _
    refine s_retP (P := (MP.tup ins.length fun i => MP.isD (beginD s i (ins.getD i 0))).p) ?_ q
    rw [← len]
    refine ep_tupOf (ep_lcE (fun i => MP.isD (beginD s i (ins.getD i 0))) (by walk_at "ev") (st_of hi) (by omega) (fun _ _ => rfl) fun i x hx => ?_)
    rw [List.getElem?_map] at hx
    obtain ⟨v, hv, rfl⟩ := Option.map_eq_some_iff.1 hx
    obtain ⟨dx, f1, f2, f3, c, sh, h1, l1, l2, l3, hc, hs⟩ := hf
    refine ep_fn (s := s) T (ev_var rfl) (eap_ev (vs := [.int (i : Nat), .int v]) (by walk_at "ev")) T.noat_Folk_kept_begin ⟨dx, c, sh, _, h1, folk_begin, l1, hc, hs, fun z => by rw [z] at hs; exact nomatch hs.symm.trans hc⟩ (fun _ _ _ e p => (MP.isD _).up (Ex.frT e) p) fun sh vs H1 e1 hp H2 fr hs2 Q k => ?_
    subst hp
    have : ins.getD i 0 = v := by rw [List.getD_eq_getElem?_getD, hv]; rfl
    rw [this] at k
    exact ⟨sh, s, i, v, rfl, hs2, k⟩
def sp_heard_of (W : Wd) : GS := fun vs H Q => ∃ (a : Addr) (n : Nat) (d : Nat → PyData) (m : Option Nat), vs = [.ref a, oV m] ∧ (MP.tup n fun i => MP.isD (d i)).p (.ref a) H ∧ n ≤ 5 ∧ Ret (MP.tup n fun o => MP.isD (if m = some o then .none else d o)).p H Q
theorem scal_oV {i : Int} {m : Option Nat} : scal (.int i) (oV m) = true := by cases m <;> rfl
theorem dec_oV {i : Nat} {m : Option Nat} : decide (V.int (i : Nat) = oV m) = decide (m = some i) := by
  refine decide_eq_decide.2 ?_
  cases m with
  | none => exact ⟨fun h => (nomatch h), fun h => (nomatch h)⟩
  | some j => exact ⟨fun h => by rw [show i = j from Int.ofNat.inj (V.int.inj h)], fun h => by rw [Option.some.inj h]; rfl⟩
abbrev N_heard_of : List Str := ["memories", "missed", "other", "memory"]
theorem sc_heard_of : FnScope N_heard_of ["memories", "missed"] (defScope s_heard_of) := ⟨rfl, rfl, rfl, by decide +kernel, rfl, by decide +kernel, by decide +kernel⟩
theorem C_heard_of {W : Wd} (T : TopW W) : Cal W "heard_of" 1 (sp_heard_of W) := by
  refine cal_mk T (d := d_heard_of) (ps := ["memories", "missed"]) 15 14 rfl rfl rfl rfl rfl fun f fd F => ⟨fng_of F sc_heard_of (fun vs H Q h => ?_) (fun cdv A outer s H vs Q hr hg h => ?_), F.bindsN fun _ _ _ _ _ _ us hl => match us, hl with | [_, _], _ => rfl⟩
  · obtain ⟨a, n, d, m, h0, ht, hn, q⟩ := h
    first | rfl | (subst h0; rfl)
  · have hu := hu_of hr
    have nd := sc_heard_of.nd
    obtain ⟨a, n, d, m, h0, ht, hn, q⟩ := h
    try subst h0
    refine ⟨_, (pss_one (ps_ret (pe_callTy (cr_tupk (K := W.K) rfl) rfl T.free_tuple boot_tuple (pa_cons (pe_lc (own := [("other", 2), ("memory", 3)]) rfl nd (pi_enumk (K := W.K) rfl rfl T.free_enumerate (pa_cons (pv 0) pa_nil)) (blkOk_by (own := [("other", 2), ("memory", 3)]) (N := N_heard_of) (sc := defScope s_heard_of) (by decide +kernel)) (fun _ _ _ _ _ => (pg_tupk (K := W.K) (n := 2) rfl rfl (pgs_cons (pg_name (i := 2) nd rfl (Or.inl rfl)) (pgs_cons (pg_name (i := 3) nd rfl (Or.inl rfl)) pgs_nil)) rfl)) (fun _ _ _ _ _ => pts_nil) (fun _ _ _ _ _ => (pe_ifExp (pt_cmpR op_eq (pv 2) (pv 1) (nomark _)) pe_non (pv 3)))) pa_nil)))), ?_⟩
    obtain ⟨_, vs, h1, ha, hl, hd⟩ := ht
    cases h1
    refine s_retP (P := (MP.tup n fun o => MP.isD (if m = some o then .none else d o)).p) ?_ q
    rw [← hl]
    refine ep_tupOf (ep_lcE (fun o => MP.isD (if m = some o then .none else d o)) (by walk_at "ev") (st_of ha) (by omega) (fun _ _ => rfl) fun i x hx => ?_)
    refine ep_if (b := decide (m = some i)) (et_is (et_test (ev_op (ev_var rfl) (ev_var rfl) (rv_eq scal_oV))) dec_oV) (fun h => ?_) fun h => ?_
    · rw [if_pos (of_decide_eq_true h)]
      exact ep_is ev_c fun _ _ => .non
    · rw [if_neg (of_decide_eq_false h)]
      exact ep_is (ev_var rfl) fun H' e => (hd i x hx).ex e
def sp_told_answer (W : Wd) : GS := fun vs H Q => ∃ (fo : Addr) (s : Sh) (me r : Nat) (v : V) (d : PyData), vs = [.ref fo, .int me, v] ∧ FolkAt W H fo s ∧ IsD H v d ∧ MemOk s r d ∧ s.kind ≤ 2 ∧ (s.kind = 1 → r ≤ 2) ∧ Ret (MP.eq (iV (ansD s me d))).p H Q
theorem ansP_up {K : PySem.W.Frag} {s : Sh} {me : Nat} {d : PyData} (v : V) (H H' : Hp) (e : Ex H H') (h : AnsP K s me d v H) : AnsP K s me d v H' := by
  rcases h with h | ⟨h1, tn, b1, b2, h2, h3⟩
  · exact .inl h
  · exact .inr ⟨h1, tn, b1, b2, fun H2 e2 => h2 H2 (e.trans e2), h3⟩
abbrev N_told_answer : List Str := ["folk", "me", "memory", "found"]
theorem sc_told_answer : FnScope N_told_answer ["folk", "me", "memory"] (defScope s_told_answer) := ⟨rfl, rfl, rfl, by decide +kernel, rfl, by decide +kernel, by decide +kernel⟩
theorem C_told_answer {W : Wd} (T : TopW W) : Cal W "told_answer" 3 (sp_told_answer W) := by
  have C_is_integer := C_is_integer T
  have C_kept_answer := C_kept_answer T
  refine cal_mk T (d := d_told_answer) (ps := ["folk", "me", "memory"]) 17 16 rfl rfl rfl rfl rfl fun f fd F => ⟨fng_of F sc_told_answer (fun vs H Q h => ?_) (fun cdv A outer s H vs Q hr hg h => ?_), F.bindsN fun _ _ _ _ _ _ us hl => match us, hl with | [_, _, _], _ => rfl⟩
  · obtain ⟨fo, s, me, r, v, d, h0, hf, hd, hm, hk, hr2, q⟩ := h
    first | rfl | (subst h0; rfl)
  · have hu := hu_of hr
    have nd := sc_told_answer.nd
    obtain ⟨fo, s, me, r, v, d, h0, hf, hd, hm, hk, hr2, q⟩ := h
    try subst h0
    refine ⟨_, (pss_cons (ps_set (i := 3) nd rfl (Or.inl rfl) (pe_fnk (K := W.K) rfl (pv 0) C_kept_answer rfl hr (by decide) hg (pa_cons (pv 1) (pa_cons (pv 2) pa_nil)))) (pss_one (ps_ret (pe_ifExp (pt_val (pe_cal C_is_integer rfl hr (by decide) hg rfl (pa_cons (pv 3) pa_nil))) (pv 3) pe_non)))), ?_⟩
    obtain ⟨dx, f1, f2, f3, c, sh, h1, l1, l2, l3, hc, hs⟩ := hf
    refine q_asgP (P := AnsP W.K s me d) (ep_fn (s := s) T (ev_var rfl) (eap_ev (vs := [.int (me : Nat), v]) (by walk_at "ev")) T.noat_Folk_kept_answer ⟨dx, c, sh, _, h1, folk_answer, l3, hc, hs, fun z => by rw [z] at hs; exact nomatch hs.symm.trans hc⟩ ansP_up fun sh vs H1 e1 hp H2 fr hs2 Q k => ?_) fun w H1 e1 p => ?_
    · subst hp
      exact ⟨sh, s, me, r, v, d, rfl, hs2, (hd.ex e1).up fr, hm, hk, hr2, k⟩
    · rcases p with ⟨i, rfl, ha⟩ | ⟨ha, tn, b1, b2, ty, k1, k2, kb⟩
      · refine s_retE (v := iV (ansD s me d)) (ev_if (b := true) (et_B (ev_calR (v := .bl (true && !false)) (by walk_at "ev") fun H2 e Q k => ⟨.int i, "int", true, false, rfl, fun H' _ => .base (.int i), kit_ii, kit_ib, k⟩)) (fun _ => ?_) fun h => by cases h) fun w H2 e2 p => q w H2 (e1.trans e2) p
        rw [ha]
        exact ev_var rfl
      · refine s_retE (v := iV (ansD s me d)) (ev_if (b := false) (et_B (ev_is (ev_calR (v := .bl (b1 && !b2)) (by walk_at "ev") fun H2 e Q k => ⟨w, tn, b1, b2, rfl, fun H' e' => ty H' (e.trans e'), k1, k2, k⟩) (by rw [kb]))) (fun h => by cases h) fun _ => ?_) fun w H2 e2 p => q w H2 (e1.trans e2) p
        rw [ha]
        exact ev_c
def sp_next_memories (W : Wd) : GS := fun vs H Q => ∃ (fo ma ra : Addr) (s : Sh) (r n : Nat) (d : Nat → PyData) (row : List (Option Nat)), vs = [.ref fo, .int r, .ref ma, .ref ra] ∧ FolkAt W H fo s ∧ s.Ok ∧ (MP.tup n fun i => MP.isD (d i)).p (.ref ma) H ∧ H ra = some (.tup (row.map oV)) ∧ row.length = n ∧
  n ≤ 5 ∧ (∀ i, i < n → MemOk s r (d i)) ∧ Ret (MP.tup n fun me => MP.isD (stepD s n me r (d me) fun o => if row.getD me none = some o then .none else d o)).p H Q
abbrev N_next_memories : List Str := ["folk", "number", "memories", "row", "found", "me", "missed"]
theorem sc_next_memories : FnScope N_next_memories ["folk", "number", "memories", "row"] (defScope s_next_memories) := ⟨rfl, rfl, rfl, by decide +kernel, rfl, by decide +kernel, by decide +kernel⟩
theorem C_next_memories {W : Wd} (T : TopW W) : Cal W "next_memories" 3 (sp_next_memories W) := by
  have C_heard_of := C_heard_of T
  have C_kept_step := C_kept_step T
  refine cal_mk T (d := d_next_memories) (ps := ["folk", "number", "memories", "row"]) 16 15 rfl rfl rfl rfl rfl fun f fd F => ⟨fng_of F sc_next_memories (fun vs H Q h => ?_) (fun cdv A outer s H vs Q hr hg h => ?_), F.bindsN fun _ _ _ _ _ _ us hl => match us, hl with | [_, _, _, _], _ => rfl⟩
  · obtain ⟨fo, ma, ra, s, r, n, d, row, h0, hf, sok, hm, hR, hl, hn, hmem, q⟩ := h
    first | rfl | (subst h0; rfl)
  · have hu := hu_of hr
    have nd := sc_next_memories.nd
    obtain ⟨fo, ma, ra, s, r, n, d, row, h0, hf, sok, hm, hR, hl, hn, hmem, q⟩ := h
    try subst h0
    refine ⟨_, (pss_cons (ps_set (i := 4) nd rfl (Or.inl rfl) (pe_lst pa_nil)) (pss_cons (ps_for PassesOwn.never rfl (pi_enumk (K := W.K) rfl rfl T.free_enumerate (pa_cons (pv 3) pa_nil)) (pg_tupk (K := W.K) (n := 2) rfl rfl (pgs_cons (pg_name (i := 5) nd rfl (Or.inl rfl)) (pgs_cons (pg_name (i := 6) nd rfl (Or.inl rfl)) pgs_nil)) rfl) (pss_one (ps_expr (pe_bm PySem.F.plainAttrs_list PySem.F.slot_list_append PySem.F.type_list_append mt_append (pv 4) (pa_cons (pe_fnk (K := W.K) rfl (pv 0) C_kept_step rfl hr (by decide) hg (pa_cons (pv 5) (pa_cons (pv 1) (pa_cons (pe_cal C_heard_of rfl hr (by decide) hg rfl (pa_cons (pv 2) (pa_cons (pv 6) pa_nil))) pa_nil)))) pa_nil))))) (pss_one (ps_ret (pe_callTy (cr_tupk (K := W.K) rfl) rfl T.free_tuple boot_tuple (pa_cons (pv 4) pa_nil)))))), ?_⟩
    have len : (row.map oV).length = row.length := List.length_map _
    refine q_asgL (el_lst ea_nil (by simp)) fun l H1 hl0 e1 hl1 => ?_
    refine q_forEnum (ep_is (P := (MP.tupX (row.map oV)).p) (ev_var rfl) fun H' e => ⟨ra, rfl, (e1.trans e) _ _ hR⟩) (fun a i σ' H' => Ex H H' ∧ H' a = some (.tup (row.map oV)) ∧ ∃ (acc : List V) (y z : Option V), H' l = some (.lst acc) ∧ acc.length = i ∧ (∀ (j : Nat) (v : V), acc[j]? = some v → (MP.isD (stepD s n j r (d j) fun o => if row.getD j none = some o then .none else d o)).p v H') ∧
      σ' = [some (.ref fo), some (.int r), some (.ref ma), some (.ref ra), some (.ref l), y, z]) (fun a H2 e2 ha => ⟨e1.trans e2, ha, [], none, none, e2 _ _ hl1, rfl, fun j v z => by simp at z, rfl⟩) (fun a i σ' H' p => p.2.1) ?_ ?_
    · rintro a i x σ' H2 T' hx ⟨e2, ha, acc, _, _, hlacc, hlen, hacc, rfl⟩ hT
      rw [List.getElem?_map] at hx
      obtain ⟨m, hm2, rfl⟩ := Option.map_eq_some_iff.1 hx
      have ex := Ex.new (o := .tup [.int (i : Nat), oV m]) hT
      have e02 := e2.trans ex
      have hi : i < n := by
        have := (List.getElem?_eq_some_iff.1 hm2).1
        omega
      have hgd : row.getD i none = m := by rw [List.getD_eq_getElem?_getD, hm2]; rfl
      obtain ⟨dx, f1, f2, f3, c, sh, h1, l1, l2, l3, hc, hs⟩ := hf.ex e02
      have fr : FrT H2 (upd H2 T' (.tup [.int (i : Nat), oV m])) := Ex.frT ex
      refine s_appP (P := (MP.isD (stepD s n i r (d i) fun o => if row.getD i none = some o then .none else d o)).p) (ex _ _ hlacc) (ev_var rfl) ?_ (by omega) fun v H3 e3 pv => ?_
      · refine ep_fn (s := s) T (ev_var rfl) (eap_cons (M := .eq (.int (i : Nat))) (ep_ev (ev_var rfl)) (eap_cons (M := .eq (.int r)) (ep_ev (ev_var rfl)) (eap_cons (M := MP.tup n fun o => MP.isD (if m = some o then .none else d o)) (ep_cal (by walk_at "ev") fun H3 e3 Q k => ⟨ma, n, d, m, rfl, (MP.tup n _).up (Ex.frT (e02.trans e3)) hm, hn, k⟩) eap_nil))) T.noat_Folk_kept_step
          ⟨dx, c, sh, _, h1, folk_step, l2, hc, hs, fun z => by rw [z] at hs; exact nomatch hs.symm.trans hc⟩ (fun _ _ _ e p => (MP.isD _).up (Ex.frT e) p) fun sh vs H3 e3 hp H4 fr4 hs4 Q k => ?_
        obtain ⟨_, _, rfl, rfl, _, _, rfl, rfl, _, _, rfl, ⟨hv, ws, rfl, hw, hwl, hwd⟩, rfl⟩ := hp
        refine ⟨sh, hv, s, n, i, r, d i, fun o => if m = some o then .none else d o, rfl, hs4, ⟨ws, fr4 _ _ hw, hwl, fun j v q => (hwd j v q).up fr4⟩, hn, fun j hj => ?_, sok, ?_⟩
        · show HeardOk s r (if m = some j then .none else d j)
          split
          · exact .inl rfl
          · exact .inr (hmem j hj)
        · rw [hgd] at k
          exact k
      · have hl3 : H3 l = some (.lst acc) := (ex.trans e3) _ _ hlacc
        have frl : FrT H3 (upd H3 l (.lst (acc ++ [v]))) := FrT.new fun xs q => by rw [hl3] at q; cases q
        refine ⟨(e02.trans e3).mut hl0, ?_, acc ++ [v], _, _, upd_same, by simp [hlen], fun j w z => ?_, rfl⟩
        · exact frl _ _ ((ex.trans e3) _ _ ha)
        · by_cases hj : j < acc.length
          · rw [List.getElem?_append_left hj] at z
            exact (MP.isD _).up ((Ex.frT (ex.trans e3)).trans frl) (hacc j w z)
          · have hj2 : j = i := by
              have := (List.getElem?_eq_some_iff.1 z).1
              simp at this
              omega
            subst hj2
            rw [← hlen] at z
            simp at z
            subst z
            rw [← hlen] at pv
            rw [hlen] at pv
            exact (MP.isD _).up frl pv
    · rintro a σ' H2 ⟨e2, ha, acc, _, _, hlacc, hlen, hacc, rfl⟩
      rw [len, hl] at hlen
      refine s_retP (ep_tupOf (n := n) (Pi := fun me => MP.isD (stepD s n me r (d me) fun o => if row.getD me none = some o then .none else d o)) (ep_is (ev_var rfl) fun H' e => ⟨l, acc, rfl, e _ _ hlacc, hlen, fun j v z => (MP.isD _).up (Ex.frT e) (hacc j v z)⟩)) fun w H3 e3 p => q w H3 (e2.trans e3) p
/-- a pattern as a function -/
def patF (p : List (List (Option Nat))) (r me : Nat) : Option Nat := (p.getD r []).getD me none
abbrev TupR (s : Sh) (ins : List Int) (p : List (List (Option Nat))) (r : Nat) : MP := MP.tup ins.length fun me => MP.isD (runD s ins.length ins (patF p) r me)
structure RunOk (W : Wd) (H : Hp) (s : Sh) (fo ia pa : Addr) (ins : List Int) (p : List (List (Option Nat))) : Prop where
  f : FolkAt W H fo s
  i : H ia = some (.tup (ins.map V.int))
  pt : PatAt H pa p
  ok : s.Ok
  po : PatOk ins.length p
  n3 : 3 ≤ ins.length
  n5 : ins.length ≤ 5
  io : ∀ i, i < ins.length → (ins.getD i 0).natAbs < 2 ^ 64
  pl : p.length = s.rounds
theorem RunOk.ex {W : Wd} {H H' : Hp} {s : Sh} {fo ia pa : Addr} {ins : List Int} {p : List (List (Option Nat))} (h : RunOk W H s fo ia pa ins p) (e : Ex H H') : RunOk W H' s fo ia pa ins p :=
  ⟨h.f.ex e, e _ _ h.i, h.pt.up (Ex.frT e), h.ok, h.po, h.n3, h.n5, h.io, h.pl⟩
def sp_raw_memories (W : Wd) : GS := fun vs H Q => ∃ (fo ia pa : Addr) (s : Sh) (ins : List Int) (p : List (List (Option Nat))), vs = [.ref fo, .ref ia, .ref pa] ∧ RunOk W H s fo ia pa ins p ∧ Ret (LstP (s.rounds + 1) (TupR s ins p)) H Q
abbrev N_raw_memories : List Str := ["folk", "inputs", "pattern", "found", "number", "row"]
theorem sc_raw_memories : FnScope N_raw_memories ["folk", "inputs", "pattern"] (defScope s_raw_memories) := ⟨rfl, rfl, rfl, by decide +kernel, rfl, by decide +kernel, by decide +kernel⟩
theorem C_raw_memories {W : Wd} (T : TopW W) : Cal W "raw_memories" 4 (sp_raw_memories W) := by
  have C_first_memories := C_first_memories T
  have C_next_memories := C_next_memories T
  refine cal_mk T (d := d_raw_memories) (ps := ["folk", "inputs", "pattern"]) 18 17 rfl rfl rfl rfl rfl fun f fd F => ⟨fng_of F sc_raw_memories (fun vs H Q h => ?_) (fun cdv A outer s H vs Q hr hg h => ?_), F.bindsN fun _ _ _ _ _ _ us hl => match us, hl with | [_, _, _], _ => rfl⟩
  · obtain ⟨fo, ia, pa, s, ins, p, h0, ro, q⟩ := h
    first | rfl | (subst h0; rfl)
  · have hu := hu_of hr
    have nd := sc_raw_memories.nd
    obtain ⟨fo, ia, pa, s, ins, p, h0, ro, q⟩ := h
    try subst h0
    refine ⟨_, (pss_cons (ps_set (i := 3) nd rfl (Or.inl rfl) (pe_lst (pa_cons (pe_cal C_first_memories rfl hr (by decide) hg rfl (pa_cons (pv 0) (pa_cons (pv 1) pa_nil))) pa_nil))) (pss_cons (ps_for PassesOwn.never rfl (pi_enumk (K := W.K) rfl rfl T.free_enumerate (pa_cons (pv 2) pa_nil)) (pg_tupk (K := W.K) (n := 2) rfl rfl (pgs_cons (pg_name (i := 4) nd rfl (Or.inl rfl)) (pgs_cons (pg_name (i := 5) nd rfl (Or.inl rfl)) pgs_nil)) rfl) (pss_one (ps_expr (pe_bm PySem.F.plainAttrs_list PySem.F.slot_list_append PySem.F.type_list_append mt_append (pv 3) (pa_cons (pe_cal C_next_memories rfl hr (by decide) hg rfl (pa_cons (pv 0) (pa_cons (pv 4) (pa_cons (pe_ixlk (K := W.K) rfl (pv 3) (pe_un un_neg pe_int) (fun _ _ => rfl)) (pa_cons (pv 5) pa_nil))))) pa_nil))))) (pss_one (ps_ret (pv 3))))), ?_⟩
    have rmem : ∀ r me, me < ins.length → r ≤ s.rounds → MemOk s r (runD s ins.length ins (patF p) r me) := fun r me hm hr => run_mem ro.ok (by have := ro.n3; omega) ro.n5 ro.io r me hm hr
    obtain ⟨ps, hp1, hp2, hp3⟩ := ro.pt
    refine q_asgL1 (P := (TupR s ins p 0).p) (ep_cal (by walk_at "ev") fun H1 e1 Q k => ⟨fo, ia, s, ins, rfl, ro.f.ex e1, e1 _ _ ro.i, ro.n5, k⟩) (fun _ _ _ e h => (TupR s ins p 0).up (Ex.frT e) h) fun l v0 H1 hl0 e1 pv0 hl1 => ?_
    refine q_forEnum (ep_is (P := (MP.tupX ps).p) (ev_var rfl) fun H' e => ⟨pa, rfl, (e1.trans e) _ _ hp1⟩) (fun a i σ' H' => Ex H H' ∧ H' a = some (.tup ps) ∧ ∃ (acc : List V) (y z : Option V), H' l = some (.lst acc) ∧ acc.length = i + 1 ∧ (∀ (j : Nat) (v : V), acc[j]? = some v → (TupR s ins p j).p v H') ∧
      σ' = [some (.ref fo), some (.ref ia), some (.ref pa), some (.ref l), y, z]) (fun a H2 e2 ha => ⟨e1.trans e2, ha, [v0], none, none, e2 _ _ hl1, rfl, fun j v z => ?_, rfl⟩) (fun a i σ' H' p => p.2.1) ?_ ?_
    · have hj : j = 0 := by
        have := (List.getElem?_eq_some_iff.1 z).1
        simp at this
        exact this
      subst hj
      simp at z
      subst z
      exact (TupR s ins p 0).up (Ex.frT e2) pv0
    · rintro a i x σ' H2 T' hx ⟨e2, ha, acc, _, _, hlacc, hlen, hacc, rfl⟩ hT
      have ex := Ex.new (o := .tup [.int (i : Nat), x]) hT
      have e02 := e2.trans ex
      have hi : i < p.length := by
        have := (List.getElem?_eq_some_iff.1 hx).1
        omega
      have hrow : p[i]? = some p[i] := by simp [hi]
      obtain ⟨rb, rfl, hrb⟩ := hp3 i x p[i] hx hrow
      have hrok := ro.po _ (List.getElem_mem hi)
      have hpl := ro.pl
      have hil : i < acc.length := by omega
      have hxi : acc[i]? = some acc[i] := by simp [hil]
      obtain ⟨ma, ws, hma1, hma2, hma3, hma4⟩ := hacc i _ hxi
      have hgd : ∀ me, patF p i me = p[i].getD me none := fun me => by unfold patF; rw [List.getD_eq_getElem?_getD (l := p), hrow]; rfl
      refine s_appP (P := (TupR s ins p (i + 1)).p) (ex _ _ hlacc) (ev_var rfl) (ep_cal (vs := [.ref fo, .int (i : Nat), .ref ma, .ref rb]) (ea_cons (by walk_at "ev") (ea_cons (by walk_at "ev") (ea_cons ?_ (ea_cons (by walk_at "ev") ea_nil)))) fun H3 e3 Q k => ?_) (by have := ro.ok.r; omega) fun v H3 e3 pv => ?_
      · rw [← hma1]
        exact ev_op (ev_var rfl) (ev_un ev_c ru_neg) (rv_ixL (sq_of (ex _ _ hlacc)) (atI_neg1 hlen hxi))
      · have e03 := e02.trans e3
        refine ⟨fo, ma, rb, s, i, ins.length, fun me => runD s ins.length ins (patF p) i me, p[i], rfl, ro.f.ex e03, ro.ok, (TupR s ins p i).up (Ex.frT (ex.trans e3)) ⟨ma, ws, rfl, hma2, hma3, hma4⟩, e03 _ _ hrb, hrok.1, ro.n5, fun me hm => rmem i me hm (by omega), ?_⟩
        have : (TupR s ins p (i + 1)) = MP.tup ins.length fun me => MP.isD (stepD s ins.length me i (runD s ins.length ins (patF p) i me) fun o => if p[i].getD me none = some o then .none else runD s ins.length ins (patF p) i o) := by
          refine congrArg (MP.tup ins.length) (funext fun me => ?_)
          show MP.isD (stepD s ins.length me i _ fun o => if patF p i me = some o then .none else _) = _
          rw [hgd]
        rw [← this]
        exact k
      · have hl3 : H3 l = some (.lst acc) := (ex.trans e3) _ _ hlacc
        have frl : FrT H3 (upd H3 l (.lst (acc ++ [v]))) := FrT.new fun xs q => by rw [hl3] at q; cases q
        refine ⟨(e02.trans e3).mut hl0, frl _ _ ((ex.trans e3) _ _ ha), acc ++ [v], _, _, upd_same, by simp [hlen], fun j w z => ?_, rfl⟩
        by_cases hj : j < acc.length
        · rw [List.getElem?_append_left hj] at z
          exact (TupR s ins p j).up ((Ex.frT (ex.trans e3)).trans frl) (hacc j w z)
        · have hj2 : j = i + 1 := by
            have := (List.getElem?_eq_some_iff.1 z).1
            simp at this
            omega
          subst hj2
          have z2 : (acc ++ [v])[acc.length]? = some w := by rw [hlen]; exact z
          simp at z2
          subst z2
          exact (TupR s ins p (i + 1)).up frl pv
    · rintro a σ' H2 ⟨e2, ha, acc, _, _, hlacc, hlen, hacc, rfl⟩
      rw [hp2, ro.pl] at hlen
      refine s_retP (P := LstP (s.rounds + 1) (TupR s ins p)) (ep_is (ev_var rfl) fun H' e => ⟨l, acc, rfl, e _ _ hlacc, hlen, fun j v z => (TupR s ins p j).up (Ex.frT e) (hacc j v z)⟩) fun w H3 e3 p => q w H3 (e2.trans e3) p
abbrev AnsR (s : Sh) (ins : List Int) (p : List (List (Option Nat))) : MP := MP.tup ins.length fun me => MP.eq (iV (ansD s me (runD s ins.length ins (patF p) s.rounds me)))
def sp_raw_answers (W : Wd) : GS := fun vs H Q => ∃ (fo ia pa : Addr) (s : Sh) (ins : List Int) (p : List (List (Option Nat))), vs = [.ref fo, .ref ia, .ref pa] ∧ RunOk W H s fo ia pa ins p ∧ Ret (AnsR s ins p).p H Q
abbrev N_raw_answers : List Str := ["folk", "inputs", "pattern", "last", "me", "memory"]
theorem sc_raw_answers : FnScope N_raw_answers ["folk", "inputs", "pattern"] (defScope s_raw_answers) := ⟨rfl, rfl, rfl, by decide +kernel, rfl, by decide +kernel, by decide +kernel⟩
theorem C_raw_answers {W : Wd} (T : TopW W) : Cal W "raw_answers" 5 (sp_raw_answers W) := by
  have C_raw_memories := C_raw_memories T
  have C_told_answer := C_told_answer T
  refine cal_mk T (d := d_raw_answers) (ps := ["folk", "inputs", "pattern"]) 19 18 rfl rfl rfl rfl rfl fun f fd F => ⟨fng_of F sc_raw_answers (fun vs H Q h => ?_) (fun cdv A outer s H vs Q hr hg h => ?_), F.bindsN fun _ _ _ _ _ _ us hl => match us, hl with | [_, _, _], _ => rfl⟩
  · obtain ⟨fo, ia, pa, s, ins, p, h0, ro, q⟩ := h
    first | rfl | (subst h0; rfl)
  · have hu := hu_of hr
    have nd := sc_raw_answers.nd
    obtain ⟨fo, ia, pa, s, ins, p, h0, ro, q⟩ := h
    try subst h0
    refine ⟨_, (pss_cons (ps_set (i := 3) nd rfl (Or.inl rfl) (pe_ixlk (K := W.K) rfl (pe_cal C_raw_memories rfl hr (by decide) hg rfl (pa_cons (pv 0) (pa_cons (pv 1) (pa_cons (pv 2) pa_nil)))) (pe_un un_neg pe_int) (fun _ _ => rfl))) (pss_one (ps_ret (pe_callTy (cr_tupk (K := W.K) rfl) rfl T.free_tuple boot_tuple (pa_cons (pe_lc (own := [("me", 4), ("memory", 5)]) rfl nd (pi_enumk (K := W.K) rfl rfl T.free_enumerate (pa_cons (pv 3) pa_nil)) (blkOk_by (own := [("me", 4), ("memory", 5)]) (N := N_raw_answers) (sc := defScope s_raw_answers) (by decide +kernel)) (fun _ _ _ _ _ => (pg_tupk (K := W.K) (n := 2) rfl rfl (pgs_cons (pg_name (i := 4) nd rfl (Or.inl rfl)) (pgs_cons (pg_name (i := 5) nd rfl (Or.inl rfl)) pgs_nil)) rfl)) (fun _ _ _ _ _ => pts_nil) (fun _ _ _ _ _ => (pe_cal C_told_answer rfl hr (by decide) hg rfl (pa_cons (pv 0) (pa_cons (pv 4) (pa_cons (pv 5) pa_nil)))))) pa_nil))))), ?_⟩
    have rmem : ∀ r me, me < ins.length → r ≤ s.rounds → MemOk s r (runD s ins.length ins (patF p) r me) := fun r me hm hr => run_mem ro.ok (by have := ro.n3; omega) ro.n5 ro.io r me hm hr
    refine q_asgP (P := (TupR s ins p s.rounds).p) (ep_last (ep_cal (by walk_at "ev") fun H1 e1 Q k => ⟨fo, ia, pa, s, ins, p, rfl, ro.ex e1, k⟩)) fun v H1 e1 pv => ?_
    obtain ⟨a, ws, rfl, ha, hl, hd⟩ := pv
    have h5 := ro.n5
    refine s_retP (P := (AnsR s ins p).p) ?_ fun w H3 e3 p => q w H3 (e1.trans e3) p
    show EvP _ _ _ (MP.tup ins.length fun me => MP.eq (iV (ansD s me (runD s ins.length ins (patF p) s.rounds me)))).p
    rw [← hl]
    refine ep_tupOf (ep_lcE (fun me => MP.eq (iV (ansD s me (runD s ws.length ins (patF p) s.rounds me)))) (by walk_at "ev") (st_of ha) (by omega) (fun _ _ => rfl) fun i x hx => ?_)
    have hi : i < ins.length := by
      have := (List.getElem?_eq_some_iff.1 hx).1
      omega
    rw [hl]
    exact ep_cal (by walk_at "ev") fun H2 e2 Q k => ⟨fo, s, i, s.rounds, x, _, rfl, ro.f.ex (e1.trans e2), (hd i x hx).ex e2, rmem s.rounds i hi (Nat.le_refl _), ro.ok.k, fun z => ro.ok.k1 z, k⟩
def sp_check_run (W : Wd) : GS := fun vs H Q => ∃ (fo ia pa : Addr) (s : Sh) (ins : List Int) (p : List (List (Option Nat))), vs = [.ref fo, .ref ia, .ref pa] ∧ RunOk W H s fo ia pa ins p ∧ Ret (MP.eq .non).p H Q
abbrev N_check_run : List Str := ["folk", "inputs", "pattern"]
theorem sc_check_run : FnScope N_check_run ["folk", "inputs", "pattern"] (defScope s_check_run) := ⟨rfl, rfl, rfl, by decide +kernel, rfl, by decide +kernel, by decide +kernel⟩
theorem C_check_run {W : Wd} (T : TopW W) : Cal W "check_run" 7 (sp_check_run W) := by
  have C_check_pattern := C_check_pattern T
  have C_is_row := C_is_row T
  refine cal_mk T (d := d_check_run) (ps := ["folk", "inputs", "pattern"]) 20 19 rfl rfl rfl rfl rfl fun f fd F => ⟨fng_of F sc_check_run (fun vs H Q h => ?_) (fun cdv A outer s H vs Q hr hg h => ?_), F.bindsN fun _ _ _ _ _ _ us hl => match us, hl with | [_, _, _], _ => rfl⟩
  · obtain ⟨fo, ia, pa, s, ins, p, h0, ro, q⟩ := h
    first | rfl | (subst h0; rfl)
  · have hu := hu_of hr
    have nd := sc_check_run.nd
    obtain ⟨fo, ia, pa, s, ins, p, h0, ro, q⟩ := h
    try subst h0
    refine ⟨_, (pss_cons (ps_if (pt_not (pt_val (pe_cal C_is_row rfl hr (by decide) hg rfl (pa_cons (pv 1) pa_nil)))) (pss_one ps_never) pss_nil) (pss_one (ps_expr (pe_cal C_check_pattern rfl hr (by decide) hg rfl (pa_cons (pe_callB (cr_lenk (K := W.K) rfl) rfl T.free_len boot_len (pa_cons (pv 1) pa_nil)) (pa_cons (pe_fldk (K := W.K) rfl (pv 0) rfl) (pa_cons (pv 2) pa_nil))))))), ?_⟩
    have len : (ins.map V.int).length = ins.length := List.length_map _
    refine q_when (b := false) (et_not (et_B (ev_calR (v := .bl true) (by walk_at "ev") fun H1 e Q k => ⟨ia, ins, rfl, e _ _ ro.i, ro.n3, ro.n5, k⟩))) (fun h => by cases h) fun _ H1 e1 => ?_
    obtain ⟨dx, f1, f2, f3, c, sh, h1, l1, l2, l3, hc, hs⟩ := ro.f.ex e1
    refine s_drop (ev_calR (v := .non) (vs := [.int (ins.length : Nat), .int p.length, .ref pa]) (ea_cons ?_ (ea_cons ?_ (ea_cons (by walk_at "ev") ea_nil))) fun H2 e2 Q k => ⟨ins.length, pa, p, rfl, ro.pt.up (Ex.frT (e1.trans e2)), ro.po, ro.n5, by have := ro.pl; have := ro.ok.r; omega, k⟩) fun H2 e2 => q .non H2 (e1.trans e2) rfl
    · rw [← len]
      exact ev_lenT (ev_var rfl) (st_of (e1 _ _ ro.i))
    · rw [ro.pl]
      exact ev_fld (ev_var rfl) h1 T.cls_Folk T.noat_Folk_rounds folk_rounds
def sp_answers (W : Wd) : GS := sp_raw_answers W
abbrev N_answers : List Str := ["folk", "inputs", "pattern"]
theorem sc_answers : FnScope N_answers ["folk", "inputs", "pattern"] (defScope s_answers) := ⟨rfl, rfl, rfl, by decide +kernel, rfl, by decide +kernel, by decide +kernel⟩
theorem C_answers {W : Wd} (T : TopW W) : Cal W "answers" 8 (sp_answers W) := by
  have C_check_run := C_check_run T
  have C_raw_answers := C_raw_answers T
  refine cal_mk T (d := d_answers) (ps := ["folk", "inputs", "pattern"]) 21 20 rfl rfl rfl rfl rfl fun f fd F => ⟨fng_of F sc_answers (fun vs H Q h => ?_) (fun cdv A outer s H vs Q hr hg h => ?_), F.bindsN fun _ _ _ _ _ _ us hl => match us, hl with | [_, _, _], _ => rfl⟩
  · obtain ⟨fo, ia, pa, s, ins, p, h0, ro, q⟩ := h
    first | rfl | (subst h0; rfl)
  · have hu := hu_of hr
    have nd := sc_answers.nd
    obtain ⟨fo, ia, pa, s, ins, p, h0, ro, q⟩ := h
    try subst h0
    refine ⟨_, (pss_cons (ps_expr (pe_cal C_check_run rfl hr (by decide) hg rfl (pa_cons (pv 0) (pa_cons (pv 1) (pa_cons (pv 2) pa_nil))))) (pss_one (ps_ret (pe_cal C_raw_answers rfl hr (by decide) hg rfl (pa_cons (pv 0) (pa_cons (pv 1) (pa_cons (pv 2) pa_nil))))))), ?_⟩
    refine q_drop (ev_calR (v := .non) (by walk_at "ev") fun H1 e Q k => ⟨fo, ia, pa, s, ins, p, rfl, ro.ex e, k⟩) fun H1 e1 => ?_
    exact s_retP (P := (AnsR s ins p).p) (ep_cal (by walk_at "ev") fun H2 e2 Q k => ⟨fo, ia, pa, s, ins, p, rfl, ro.ex (e1.trans e2), k⟩) fun w H3 e3 p => q w H3 (e1.trans e3) p
end Kn

set_option Elab.async false
set_option linter.all false
set_option maxRecDepth 100000
set_option maxHeartbeats 4000000
/-! A net as it stands in the heap. -/
namespace Kn
open PySem PySem.Spec PyProof.Rows L2 Evl
structure Re where
  bag : Addr
  up : Addr
  notes : Addr
  missed : Addr
  kept : Addr
  no : Nat → Addr
  mi : Nat → Addr
  ke : Nat → Addr
/-- what may change -/
def Re.Fp (c : Re) (n : Nat) (a : Addr) : Prop := a = c.bag ∨ a = c.up ∨ a = c.notes ∨ a = c.missed ∨ a = c.kept ∨ ∃ i, i < n ∧ (a = c.no i ∨ a = c.mi i ∨ a = c.ke i)
structure Ro (ρ : Addr → Nat) (n : Nat) (c : Re) : Prop where
  bag : ρ c.bag = 0
  up : ρ c.up = 1
  notes : ρ c.notes = 2
  missed : ρ c.missed = 3
  kept : ρ c.kept = 4
  no : ∀ i, i < n → ρ (c.no i) = 5 + 3 * i
  mi : ∀ i, i < n → ρ (c.mi i) = 6 + 3 * i
  ke : ∀ i, i < n → ρ (c.ke i) = 7 + 3 * i
theorem ne_ro {ρ : Addr → Nat} {x y : Addr} {i j : Nat} (hx : ρ x = i) (hy : ρ y = j) (h : i ≠ j) : x ≠ y := fun e => h (by rw [← hx, ← hy, e])
def k2 (r j : Nat) : List Key := [.inl (r : Int), .inl (j : Int)]
theorem k2_inj {r j r2 j2 : Nat} : k2 r j = k2 r2 j2 ↔ r = r2 ∧ j = j2 := by
  unfold k2
  simp only [List.cons.injEq, Sum.inl.injEq, and_true]
  constructor <;> intro h <;> constructor <;> omega
def LetP (H : Hp) (S : NS) (l : Nat × Nat × Nat) (v : V) : Prop := ∃ a m, v = .ref a ∧ H a = some (.tup [.int l.1, .int l.2.1, .int l.2.2, m]) ∧ IsD H m (S.note l.2.1 l.2.2)
structure KeptOk (H : Hp) (S : NS) (i : Nat) (kvs : List (List Key × V)) : Prop where
  keys : ∀ kv ∈ kvs, ∃ r j, kv.1 = k2 r j
  none : ∀ r j, S.done i ≤ r → valV kvs (k2 r j) = none → S.K i r j = false
  some : ∀ r j v, S.done i ≤ r → valV kvs (k2 r j) = some v → S.K i r j = true ∧ IsD H v (S.note j r)
structure NetAt (H : Hp) (n : Nat) (c : Re) (S : NS) : Prop where
  ro : ∃ ρ, Ro ρ n c
  bag : ∃ ls : List V, H c.bag = some (.lst ls) ∧ ls.length = S.bag.length ∧ ∀ (i : Nat) (v : V) (l : Nat × Nat × Nat), ls[i]? = some v → S.bag[i]? = some l → LetP H S l v
  up : H c.up = some (.lst ((List.range n).map fun i => .bl (S.up i)))
  notes : H c.notes = some (.lst ((List.range n).map fun i => .ref (c.no i)))
  missed : H c.missed = some (.lst ((List.range n).map fun i => .ref (c.mi i)))
  kept : H c.kept = some (.lst ((List.range n).map fun i => .ref (c.ke i)))
  no : ∀ i, i < n → ∃ vs : List V, H (c.no i) = some (.lst vs) ∧ vs.length = S.done i + 1 ∧ ∀ (r : Nat) (v : V), vs[r]? = some v → IsD H v (S.note i r)
  mi : ∀ i, i < n → H (c.mi i) = some (.lst ((S.miss i).map oV))
  ke : ∀ i, i < n → ∃ kvs, H (c.ke i) = some (.dT kvs) ∧ kvs.length ≤ S.t ∧ KeptOk H S i kvs
theorem LetP.up {H H' : Hp} {S : NS} {l : Nat × Nat × Nat} {v : V} (h : LetP H S l v) (e : FrT H H') : LetP H' S l v := by
  obtain ⟨a, m, h1, h2, h3⟩ := h
  exact ⟨a, m, h1, e _ _ h2, h3.up e⟩
theorem KeptOk.up {H H' : Hp} {S : NS} {i : Nat} {kvs : List (List Key × V)} (h : KeptOk H S i kvs) (e : FrT H H') : KeptOk H' S i kvs :=
  ⟨h.keys, h.none, fun r j v a b => ⟨(h.some r j v a b).1, (h.some r j v a b).2.up e⟩⟩
section
variable {H H' : Hp} {n : Nat} {c : Re} {S : NS}
theorem map_get {α : Type} {f : Nat → α} {i : Nat} (h : i < n) : ((List.range n).map f)[i]? = some (f i) := by simp [h]
theorem map_set {α : Type} {f : Nat → α} {i : Nat} {v : α} : ((List.range n).map f).set i v = (List.range n).map (setN f i v) := by
  refine List.ext_getElem? fun j => ?_
  rw [List.getElem?_set]
  by_cases h : i = j
  · subst h
    by_cases hi : i < n
    · simp [hi, setN]
    · simp [hi]
  · rw [if_neg h]
    by_cases hj : j < n
    · simp [hj, setN, Ne.symm h]
    · simp [hj]
theorem NetAt.full (N : NetAt H n c S) : ∀ a, c.Fp n a → H a ≠ none := fun a h => by
  rcases h with rfl | rfl | rfl | rfl | rfl | ⟨i, hi, rfl | rfl | rfl⟩
  · obtain ⟨ls, h, _⟩ := N.bag; rw [h]; exact fun z => nomatch z
  · rw [N.up]; exact fun z => nomatch z
  · rw [N.notes]; exact fun z => nomatch z
  · rw [N.missed]; exact fun z => nomatch z
  · rw [N.kept]; exact fun z => nomatch z
  · obtain ⟨ls, h, _⟩ := N.no i hi; rw [h]; exact fun z => nomatch z
  · rw [N.mi i hi]; exact fun z => nomatch z
  · obtain ⟨ls, h, _⟩ := N.ke i hi; rw [h]; exact fun z => nomatch z
theorem NetAt.noT (N : NetAt H n c S) : ∀ a xs, H a = some (.tup xs) → ¬ c.Fp n a := fun a xs ha h => by
  rcases h with rfl | rfl | rfl | rfl | rfl | ⟨i, hi, rfl | rfl | rfl⟩
  · obtain ⟨ls, h, _⟩ := N.bag; rw [h] at ha; exact nomatch ha
  · rw [N.up] at ha; exact nomatch ha
  · rw [N.notes] at ha; exact nomatch ha
  · rw [N.missed] at ha; exact nomatch ha
  · rw [N.kept] at ha; exact nomatch ha
  · obtain ⟨ls, h, _⟩ := N.no i hi; rw [h] at ha; exact nomatch ha
  · rw [N.mi i hi] at ha; exact nomatch ha
  · obtain ⟨ls, h, _⟩ := N.ke i hi; rw [h] at ha; exact nomatch ha
/-- nothing of the net changed -/
theorem NetAt.keep (N : NetAt H n c S) (e : FrT H H') (k : ∀ a o, c.Fp n a → H a = some o → H' a = some o) : NetAt H' n c S := by
  refine ⟨N.ro, ?_, k _ _ (.inr (.inl rfl)) N.up, k _ _ (.inr (.inr (.inl rfl))) N.notes, k _ _ (.inr (.inr (.inr (.inl rfl)))) N.missed, k _ _ (.inr (.inr (.inr (.inr (.inl rfl))))) N.kept, fun i hi => ?_, fun i hi => ?_, fun i hi => ?_⟩
  · obtain ⟨ls, h1, h2, h3⟩ := N.bag
    exact ⟨ls, k _ _ (.inl rfl) h1, h2, fun i v l a b => (h3 i v l a b).up e⟩
  · obtain ⟨vs, h1, h2, h3⟩ := N.no i hi
    exact ⟨vs, k _ _ (.inr (.inr (.inr (.inr (.inr ⟨i, hi, .inl rfl⟩))))) h1, h2, fun r v q => (h3 r v q).up e⟩
  · exact k _ _ (.inr (.inr (.inr (.inr (.inr ⟨i, hi, .inr (.inl rfl)⟩))))) (N.mi i hi)
  · obtain ⟨kvs, h1, h2, h3⟩ := N.ke i hi
    exact ⟨kvs, k _ _ (.inr (.inr (.inr (.inr (.inr ⟨i, hi, .inr (.inr rfl)⟩))))) h1, h2, h3.up e⟩
theorem NetAt.exx (N : NetAt H n c S) (e : Ex H H') : NetAt H' n c S := N.keep (Ex.frT e) fun a o _ h => e a o h
theorem NetAt.fr {M : Addr → Prop} (N : NetAt H n c S) (e : Fr M H H') (h1 : ∀ a, c.Fp n a → ¬ M a) (h2 : ∀ a xs, H a = some (.tup xs) → ¬ M a) : NetAt H' n c S := N.keep (e.frT h2) fun a o f h => e a o h (h1 a f)
theorem NetAt.later (N : NetAt H n c S) {T : Nat} (h : S.t ≤ T) : NetAt H n c { S with t := T } :=
  ⟨N.ro, N.bag, N.up, N.notes, N.missed, N.kept, N.no, N.mi, fun i hi => by
    obtain ⟨kvs, h1, h2, h3⟩ := N.ke i hi
    exact ⟨kvs, h1, Nat.le_trans h2 h, h3.keys, h3.none, h3.some⟩⟩
/-- the bag alone changed -/
theorem NetAt.bagged {ls : List V} {bag : List (Nat × Nat × Nat)} (N : NetAt H n c S) (e : Fr (fun a => a = c.bag) H H') (h1 : H' c.bag = .some (.lst ls)) (h2 : ls.length = bag.length)
    (h3 : ∀ (i : Nat) (v : V) (l : Nat × Nat × Nat), ls[i]? = .some v → bag[i]? = .some l → LetP H' S l v) : NetAt H' n c { S with bag := bag } := by
  obtain ⟨ρ, R⟩ := N.ro
  have fr : FrT H H' := e.frT fun a xs ha z => N.noT a xs ha (.inl z)
  have k : ∀ a o, H a = .some o → a ≠ c.bag → H' a = .some o := fun a o h z => e a o h z
  refine ⟨⟨ρ, R⟩, ⟨ls, h1, h2, h3⟩, k _ _ N.up (ne_ro R.up R.bag (by decide)), k _ _ N.notes (ne_ro R.notes R.bag (by decide)), k _ _ N.missed (ne_ro R.missed R.bag (by decide)), k _ _ N.kept (ne_ro R.kept R.bag (by decide)), fun i hi => ?_, fun i hi => ?_, fun i hi => ?_⟩
  · obtain ⟨vs, a1, a2, a3⟩ := N.no i hi
    exact ⟨vs, k _ _ a1 (ne_ro (R.no i hi) R.bag (by omega)), a2, fun r v q => (a3 r v q).up fr⟩
  · exact k _ _ (N.mi i hi) (ne_ro (R.mi i hi) R.bag (by omega))
  · obtain ⟨kvs, a1, a2, a3⟩ := N.ke i hi
    exact ⟨kvs, k _ _ a1 (ne_ro (R.ke i hi) R.bag (by omega)), a2, (a3.up fr).keys, a3.none, (a3.up fr).some⟩
/-- the flags alone changed -/
theorem NetAt.upped {f : Nat → Bool} (N : NetAt H n c S) (e : Fr (fun a => a = c.up) H H') (h1 : H' c.up = .some (.lst ((List.range n).map fun i => .bl (f i)))) : NetAt H' n c { S with up := f } := by
  obtain ⟨ρ, R⟩ := N.ro
  have fr : FrT H H' := e.frT fun a xs ha z => N.noT a xs ha (.inr (.inl z))
  have k : ∀ a o, H a = .some o → a ≠ c.up → H' a = .some o := fun a o h z => e a o h z
  obtain ⟨ls, b1, b2, b3⟩ := N.bag
  refine ⟨⟨ρ, R⟩, ⟨ls, k _ _ b1 (ne_ro R.bag R.up (by decide)), b2, fun i v l p q => (b3 i v l p q).up fr⟩, h1, k _ _ N.notes (ne_ro R.notes R.up (by decide)), k _ _ N.missed (ne_ro R.missed R.up (by decide)), k _ _ N.kept (ne_ro R.kept R.up (by decide)), fun i hi => ?_, fun i hi => ?_, fun i hi => ?_⟩
  · obtain ⟨vs, a1, a2, a3⟩ := N.no i hi
    exact ⟨vs, k _ _ a1 (ne_ro (R.no i hi) R.up (by omega)), a2, fun r v q => (a3 r v q).up fr⟩
  · exact k _ _ (N.mi i hi) (ne_ro (R.mi i hi) R.up (by omega))
  · obtain ⟨kvs, a1, a2, a3⟩ := N.ke i hi
    exact ⟨kvs, k _ _ a1 (ne_ro (R.ke i hi) R.up (by omega)), a2, (a3.up fr).keys, a3.none, (a3.up fr).some⟩
/-- the letters kept by one machine changed, in place -/
theorem NetAt.keptIn {me T : Nat} {kvs : List (List Key × V)} {K : Nat → Nat → Nat → Bool} (N : NetAt H n c S) (hm : me < n) (e : Fr (fun a => a = c.ke me) H H') (h1 : H' (c.ke me) = .some (.dT kvs)) (h2 : kvs.length ≤ T) (hT : S.t ≤ T)
    (h3 : KeptOk H' { S with K := K } me kvs) (h4 : ∀ i, i ≠ me → K i = S.K i) : NetAt H' n c { S with K := K, t := T } := by
  obtain ⟨ρ, R⟩ := N.ro
  have fr : FrT H H' := e.frT fun a xs ha z => N.noT a xs ha (.inr (.inr (.inr (.inr (.inr ⟨me, hm, .inr (.inr z)⟩)))))
  have k : ∀ a o, H a = .some o → a ≠ c.ke me → H' a = .some o := fun a o h z => e a o h z
  obtain ⟨ls, b1, b2, b3⟩ := N.bag
  refine ⟨⟨ρ, R⟩, ⟨ls, k _ _ b1 (ne_ro R.bag (R.ke me hm) (by omega)), b2, fun i v l p q => (b3 i v l p q).up fr⟩, k _ _ N.up (ne_ro R.up (R.ke me hm) (by omega)), k _ _ N.notes (ne_ro R.notes (R.ke me hm) (by omega)), k _ _ N.missed (ne_ro R.missed (R.ke me hm) (by omega)), k _ _ N.kept (ne_ro R.kept (R.ke me hm) (by omega)), fun i hi => ?_, fun i hi => ?_, fun i hi => ?_⟩
  · obtain ⟨vs, a1, a2, a3⟩ := N.no i hi
    exact ⟨vs, k _ _ a1 (ne_ro (R.no i hi) (R.ke me hm) (by omega)), a2, fun r v q => (a3 r v q).up fr⟩
  · exact k _ _ (N.mi i hi) (ne_ro (R.mi i hi) (R.ke me hm) (by omega))
  · by_cases z : i = me
    · subst z
      exact ⟨kvs, h1, h2, h3.keys, h3.none, h3.some⟩
    · obtain ⟨ks, a1, a2, a3⟩ := N.ke i hi
      have a4 := a3.up fr
      refine ⟨ks, k _ _ a1 (ne_ro (R.ke i hi) (R.ke me hm) (by omega)), Nat.le_trans a2 hT, a4.keys, fun r j x y => ?_, fun r j v x y => ?_⟩
      · show K i r j = false
        rw [h4 i z]
        exact a4.none r j x y
      · show K i r j = true ∧ _
        rw [h4 i z]
        exact a4.some r j v x y
/-- the letters kept by one machine are a new dict -/
theorem NetAt.keptNew {me T : Nat} {d : Addr} {kvs : List (List Key × V)} {K : Nat → Nat → Nat → Bool} (N : NetAt H n c S) (hm : me < n) (hd : H d = none) (e : Fr (fun a => a = c.kept) H H') (h0 : H' c.kept = .some (.lst ((List.range n).map fun i => .ref (setN c.ke me d i))))
    (h1 : H' d = .some (.dT kvs)) (h2 : kvs.length ≤ T) (hT : S.t ≤ T) (h3 : KeptOk H' { S with K := K } me kvs) (h4 : ∀ i, i ≠ me → K i = S.K i) : NetAt H' n { c with ke := setN c.ke me d } { S with K := K, t := T } := by
  obtain ⟨ρ, R⟩ := N.ro
  have nd : ∀ a, c.Fp n a → a ≠ d := fun a h z => N.full a h (by rw [z]; exact hd)
  have fr : FrT H H' := e.frT fun a xs ha z => N.noT a xs ha (.inr (.inr (.inr (.inr (.inl z)))))
  have k : ∀ a o, H a = .some o → a ≠ c.kept → H' a = .some o := fun a o h z => e a o h z
  have rn : ∀ a, c.Fp n a → (if a = d then 7 + 3 * me else ρ a) = ρ a := fun a h => if_neg (nd a h)
  obtain ⟨ls, b1, b2, b3⟩ := N.bag
  refine ⟨⟨fun a => if a = d then 7 + 3 * me else ρ a, ?_⟩, ⟨ls, k _ _ b1 (ne_ro R.bag R.kept (by omega)), b2, fun i v l p q => (b3 i v l p q).up fr⟩, k _ _ N.up (ne_ro R.up R.kept (by omega)), k _ _ N.notes (ne_ro R.notes R.kept (by omega)), k _ _ N.missed (ne_ro R.missed R.kept (by omega)), h0, fun i hi => ?_, fun i hi => ?_, fun i hi => ?_⟩
  · refine ⟨(rn _ (.inl rfl)).trans R.bag, (rn _ (.inr (.inl rfl))).trans R.up, (rn _ (.inr (.inr (.inl rfl)))).trans R.notes, (rn _ (.inr (.inr (.inr (.inl rfl))))).trans R.missed, (rn _ (.inr (.inr (.inr (.inr (.inl rfl)))))).trans R.kept,
      fun i hi => (rn _ (.inr (.inr (.inr (.inr (.inr ⟨i, hi, .inl rfl⟩)))))).trans (R.no i hi), fun i hi => (rn _ (.inr (.inr (.inr (.inr (.inr ⟨i, hi, .inr (.inl rfl)⟩)))))).trans (R.mi i hi), fun i hi => ?_⟩
    show (if setN c.ke me d i = d then 7 + 3 * me else ρ (setN c.ke me d i)) = 7 + 3 * i
    by_cases z : i = me
    · subst z
      rw [setN_same, if_pos rfl]
    · rw [setN_ne z]
      exact (rn _ (.inr (.inr (.inr (.inr (.inr ⟨i, hi, .inr (.inr rfl)⟩)))))).trans (R.ke i hi)
  · obtain ⟨vs, a1, a2, a3⟩ := N.no i hi
    exact ⟨vs, k _ _ a1 (ne_ro (R.no i hi) R.kept (by omega)), a2, fun r v q => (a3 r v q).up fr⟩
  · exact k _ _ (N.mi i hi) (ne_ro (R.mi i hi) R.kept (by omega))
  · show ∃ kvs, H' (setN c.ke me d i) = .some (.dT kvs) ∧ _
    by_cases z : i = me
    · subst z
      rw [setN_same]
      exact ⟨kvs, h1, h2, h3.keys, h3.none, h3.some⟩
    · rw [setN_ne z]
      obtain ⟨ks, a1, a2, a3⟩ := N.ke i hi
      have a4 := a3.up fr
      refine ⟨ks, k _ _ a1 (ne_ro (R.ke i hi) R.kept (by omega)), Nat.le_trans a2 hT, a4.keys, fun r j x y => ?_, fun r j v x y => ?_⟩
      · show K i r j = false
        rw [h4 i z]
        exact a4.none r j x y
      · show K i r j = true ∧ _
        rw [h4 i z]
        exact a4.some r j v x y
/-- what one machine noted and missed has grown -/
theorem NetAt.noted {me : Nat} {d : PyData} {m : Option Nat} {vs : List V} {v : V} (N : NetAt H n c S) (hm : me < n) (e : Fr (fun a => a = c.no me ∨ a = c.mi me) H H') (h0 : H (c.no me) = .some (.lst vs)) (h1 : H' (c.no me) = .some (.lst (vs ++ [v]))) (hv : IsD H' v d)
    (h2 : H' (c.mi me) = .some (.lst ((S.miss me ++ [m]).map oV))) (hk : ∀ i r j, S.K i r j = true → r ≤ S.done j) (hb : ∀ l ∈ S.bag, l.2.2 ≤ S.done l.2.1) :
    NetAt H' n c { S with note := setN S.note me (setN (S.note me) (S.done me + 1) d), miss := setN S.miss me (S.miss me ++ [m]) } := by
  obtain ⟨ρ, R⟩ := N.ro
  have fr : FrT H H' := e.frT fun a xs ha z => N.noT a xs ha (.inr (.inr (.inr (.inr (.inr ⟨me, hm, z.elim .inl fun q => .inr (.inl q)⟩)))))
  have k : ∀ a o i, H a = .some o → ρ a = i → i ≠ 5 + 3 * me → i ≠ 6 + 3 * me → H' a = .some o := fun a o i h r n1 n2 => e a o h fun z => z.elim (ne_ro r (R.no me hm) n1) (ne_ro r (R.mi me hm) n2)
  have note : ∀ j r, r ≤ S.done j → setN S.note me (setN (S.note me) (S.done me + 1) d) j r = S.note j r := fun j r h => by
    by_cases z : j = me
    · subst z
      rw [setN_same, setN_ne (by omega)]
    · rw [setN_ne z]
  obtain ⟨ls, b1, b2, b3⟩ := N.bag
  refine ⟨⟨ρ, R⟩, ⟨ls, k _ _ _ b1 R.bag (by omega) (by omega), b2, fun i v l p q => ?_⟩, k _ _ _ N.up R.up (by omega) (by omega), k _ _ _ N.notes R.notes (by omega) (by omega), k _ _ _ N.missed R.missed (by omega) (by omega), k _ _ _ N.kept R.kept (by omega) (by omega), fun i hi => ?_, fun i hi => ?_, fun i hi => ?_⟩
  · obtain ⟨a, mm, x1, x2, x3⟩ := (b3 i v l p q).up fr
    refine ⟨a, mm, x1, x2, ?_⟩
    show IsD H' mm (setN S.note me _ l.2.1 l.2.2)
    rw [note _ _ (hb l (List.mem_of_getElem? q))]
    exact x3
  · by_cases z : i = me
    · subst z
      obtain ⟨ws, a1, a2, a3⟩ := N.no i hi
      have : ws = vs := by
        rw [a1] at h0
        exact HO.lst.inj (Option.some.inj h0)
      subst this
      refine ⟨ws ++ [v], h1, ?_, fun r x q => ?_⟩
      · show (ws ++ [v]).length = (setN S.miss i (S.miss i ++ [m]) i).length + 1
        rw [setN_same]
        simp [a2, NS.done]
      · show IsD H' x (setN S.note i _ i r)
        rw [setN_same]
        by_cases hr : r < ws.length
        · rw [List.getElem?_append_left hr] at q
          rw [setN_ne (by omega)]
          exact (a3 r x q).up fr
        · have : r = S.done i + 1 := by
            have := (List.getElem?_eq_some_iff.1 q).1
            simp at this
            omega
          subst this
          rw [setN_same]
          rw [← a2] at q
          simp at q
          subst q
          exact hv
    · obtain ⟨ws, a1, a2, a3⟩ := N.no i hi
      refine ⟨ws, k _ _ _ a1 (R.no i hi) (by omega) (by omega), ?_, fun r x q => ?_⟩
      · show ws.length = (setN S.miss me _ i).length + 1
        rw [setN_ne z]
        exact a2
      · show IsD H' x (setN S.note me _ i r)
        rw [setN_ne z]
        exact (a3 r x q).up fr
  · show H' (c.mi i) = .some (.lst ((setN S.miss me _ i).map oV))
    by_cases z : i = me
    · subst z
      rw [setN_same]
      exact h2
    · rw [setN_ne z]
      exact k _ _ _ (N.mi i hi) (R.mi i hi) (by omega) (by omega)
  · obtain ⟨ks, a1, a2, a3⟩ := N.ke i hi
    have a4 := a3.up fr
    have dn : ∀ r, NS.done { S with note := setN S.note me (setN (S.note me) (S.done me + 1) d), miss := setN S.miss me (S.miss me ++ [m]) } i ≤ r → S.done i ≤ r := fun r h => by
      have h : (setN S.miss me (S.miss me ++ [m]) i).length ≤ r := h
      by_cases z : i = me
      · subst z
        rw [setN_same] at h
        simp at h
        unfold NS.done
        omega
      · rw [setN_ne z] at h
        exact h
    refine ⟨ks, k _ _ _ a1 (R.ke i hi) (by omega) (by omega), a2, a4.keys, fun r j x y => a4.none r j (dn r x) y, fun r j w x y => ?_⟩
    obtain ⟨q1, q2⟩ := a4.some r j w (dn r x) y
    refine ⟨q1, ?_⟩
    show IsD H' w (setN S.note me _ j r)
    rw [note _ _ (hk _ _ _ q1)]
    exact q2
end
/-! ### steps of statements on nets -/
theorem erase_get {α : Type} {xs : List α} {k i : Nat} : (xs.eraseIdx k)[i]? = if i < k then xs[i]? else xs[i + 1]? := by
  rw [List.getElem?_eraseIdx]
section
variable {W : Wd} {K : PySem.W.Frag} {σ : L2.St} {H : Hp} {ta tb tx td ty : TE} {tz : TS} {D : Ends}
/-- a, b, .. = xs.pop(k), a tuple popped -/
theorem q_pop {l p : Addr} {ls xs : List V} {k n : Nat} {g : TGs} (hl : H l = some (.lst ls)) (ha : Ev ta σ H (.ref l)) (hb : Ev tb σ H (.int (k : Nat))) (hk : ls[k]? = some (.ref p)) (hp : H p = some (.tup xs)) (hn : xs.length = n) (hz : ls.length ≤ 100000)
    (go : ∀ H1, Ex H H1 → g xs σ (upd H1 l (.lst (ls.eraseIdx k))) (tz D)) : tSeq (tAsg (tBM K "list" rPopAt ta (tCons tb tNil)) (gTup K n g)) tz D σ H :=
  ha H (Ex.refl H) _ fun H1 e1 => ⟨.inl ⟨rfl, ls, sq_of (e1 _ _ hl)⟩, hb H1 e1 _ fun H2 e2 => by
    have e := e1.trans e2
    have kl : k < ls.length := (List.getElem?_eq_some_iff.1 hk).1
    have ne : p ≠ l := fun z => by rw [z, hl] at hp; cases hp
    refine ⟨l, ls, (k : Nat), k, .ref p, rfl, rfl, e _ _ hl, by omega, by omega, ?_, hk, p, xs, rfl, st_of ((upd_ne ne).trans (e _ _ hp)), hn, go H2 e⟩
    have := PySem.StrLaws.seqIndex_nonneg (i := (k : Int)) (n := ls.length) (by omega) (by omega)
    simpa using this⟩
/-- d.setdefault((r, j), z) -/
theorem s_setd {d : Addr} {kvs : List (List Key × V)} {r j : Nat} {z : V} (hd : Ev td σ H (.ref d)) (hk : H d = some (.dT kvs)) (hy : EvU ty σ H [.int (r : Nat), .int (j : Nat)]) (hx : Ev tx σ H z) (hz : kvs.length < 100000)
    (old : ∀ v, valV kvs (k2 r j) = some v → ∀ H1, Ex H H1 → D.nx σ H1) (new : valV kvs (k2 r j) = none → ∀ H1, Ex H H1 → D.nx σ (upd H1 d (.dT (putK kvs (k2 r j) z)))) : tDrop (KnD.tSetT td ty tx) D σ H :=
  hd H (Ex.refl H) _ fun H1 e1 => ⟨d, rfl, .inr ⟨kvs, .inl (e1 _ _ hk)⟩, hy H1 e1 _ fun b H2 hb e2 hbb => hx H2 (e1.trans e2) _ fun H3 e3 =>
    ⟨kvs, k2 r j, b, ((e1.trans e2).trans e3) _ _ hk, rfl, e3 _ _ hbb, sz_lt hz, fun v hv => old v hv H3 ((e1.trans e2).trans e3), fun hn => new hn H3 ((e1.trans e2).trans e3)⟩⟩
/-- d[(r, j)] = z -/
theorem s_dput {d : Addr} {kvs : List (List Key × V)} {r j : Nat} {z : V} (hd : Ev td σ H (.ref d)) (hk : H d = some (.dT kvs)) (hy : EvU ty σ H [.int (r : Nat), .int (j : Nat)]) (hx : Ev tx σ H z) (hz : kvs.length < 100000)
    (new : ∀ H1, Ex H H1 → D.nx σ (upd H1 d (.dT (putK kvs (k2 r j) z)))) : sDPut td ty tx D σ H :=
  hx H (Ex.refl H) _ fun H1 e1 => hd H1 e1 _ fun H2 e2 => hy H2 (e1.trans e2) _ fun b H3 hb e3 hbb =>
    ⟨d, _, rfl, DPut.t (((e1.trans e2).trans e3) _ _ hk) (k := k2 r j) hbb (sz_lt hz), new H3 ((e1.trans e2).trans e3)⟩
/-- xs[i] = e -/
theorem s_setP {l : Addr} {xs : List V} {j : Nat} {P : VP} (hl : H l = some (.lst xs)) (h : EvP tx σ H P) (ho : Ev ta σ H (.ref l)) (hi : Ev tb σ H (.int (j : Nat))) (hj : j < xs.length) (up : ∀ v H H', Ex H H' → P v H → P v H') (k : ∀ v H1, Ex H H1 → P v H1 → D.nx σ (upd H1 l (.lst (xs.set j v)))) :
    tAsg tx (gSub ta tb rSetL) D σ H :=
  h H (Ex.refl H) _ fun v H1 e1 p => ho H1 e1 _ fun H2 e2 => hi H2 (e1.trans e2) _ fun H3 e3 => ⟨l, xs, (j : Nat), j, rfl, rfl, ((e1.trans e2).trans e3) _ _ hl, ixN_nat hj, k v H3 ((e1.trans e2).trans e3) (up _ _ _ (e2.trans e3) p)⟩
theorem q_setP {l : Addr} {xs : List V} {j : Nat} {P : VP} (hl : H l = some (.lst xs)) (h : EvP tx σ H P) (ho : Ev ta σ H (.ref l)) (hi : Ev tb σ H (.int (j : Nat))) (hj : j < xs.length) (up : ∀ v H H', Ex H H' → P v H → P v H') (k : ∀ v H1, Ex H H1 → P v H1 → tz D σ (upd H1 l (.lst (xs.set j v)))) :
    tSeq (tAsg tx (gSub ta tb rSetL)) tz D σ H := s_setP (D := { D with nx := tz D }) hl h ho hi hj up k
/-- a new dict -/
theorem ep_dnew : EvP tDNewT σ H (fun v H => ∃ d, v = .ref d ∧ H d = some (.dT [])) := fun H1 e Q q p hp => q _ _ (Ex.new hp) ⟨p, rfl, upd_same⟩
end
theorem KeptOk.put {H : Hp} {S : NS} {me r j : Nat} {kvs : List (List Key × V)} {z : V} (h : KeptOk H S me kvs) (hz : IsD H z (S.note j r)) (hn : valV kvs (k2 r j) = Option.none) : KeptOk H { S with K := setN S.K me (setN (S.K me) r (setN (S.K me r) j true)) } me (putK kvs (k2 r j) z) := by
  refine ⟨fun kv hkv => ?_, fun q o hq hv => ?_, fun q o v hq hv => ?_⟩
  · rw [putK_new z hn] at hkv
    rcases List.mem_append.1 hkv with x | x
    · exact h.keys kv x
    · simp at x
      exact ⟨r, j, by rw [x]⟩
  · rw [valV_put] at hv
    show setN S.K me _ me q o = false
    rw [setN_same]
    by_cases e : k2 q o = k2 r j
    · rw [if_pos e] at hv
      cases hv
    · rw [if_neg e] at hv
      have h0 := h.none q o hq hv
      by_cases e1 : q = r
      · subst e1
        have e2 : o ≠ j := fun z => e (by rw [z])
        rw [setN_same, setN_ne e2]
        exact h0
      · rw [setN_ne e1]
        exact h0
  · rw [valV_put] at hv
    show setN S.K me _ me q o = true ∧ _
    rw [setN_same]
    by_cases e : k2 q o = k2 r j
    · rw [if_pos e] at hv
      obtain ⟨e1, e2⟩ := k2_inj.1 e
      subst e1 e2
      rw [setN_same, setN_same]
      cases hv
      exact ⟨rfl, hz⟩
    · rw [if_neg e] at hv
      obtain ⟨h0, h1⟩ := h.some q o v hq hv
      refine ⟨?_, h1⟩
      by_cases e1 : q = r
      · subst e1
        rw [setN_same]
        by_cases e2 : o = j
        · subst e2
          rw [setN_same]
        · rw [setN_ne e2]
          exact h0
      · rw [setN_ne e1]
        exact h0
theorem KeptOk.had {H : Hp} {S : NS} {me r j : Nat} {kvs : List (List Key × V)} {z : V} (h : KeptOk H S me kvs) (hn : valV kvs (k2 r j) = Option.some z) : KeptOk H { S with K := setN S.K me (setN (S.K me) r (setN (S.K me r) j true)) } me kvs := by
  refine ⟨h.keys, fun q o hq hv => ?_, fun q o v hq hv => ?_⟩
  · show setN S.K me _ me q o = false
    rw [setN_same]
    have h0 := h.none q o hq hv
    by_cases e1 : q = r
    · subst e1
      have e2 : o ≠ j := fun z => by subst z; rw [hn] at hv; cases hv
      rw [setN_same, setN_ne e2]
      exact h0
    · rw [setN_ne e1]
      exact h0
  · show setN S.K me _ me q o = true ∧ _
    rw [setN_same]
    obtain ⟨h0, h1⟩ := h.some q o v hq hv
    refine ⟨?_, h1⟩
    by_cases e1 : q = r
    · subst e1
      rw [setN_same]
      by_cases e2 : o = j
      · subst e2
        rw [setN_same]
      · rw [setN_ne e2]
        exact h0
    · rw [setN_ne e1]
      exact h0
end Kn

set_option Elab.async false
set_option linter.all false
set_option maxRecDepth 100000
set_option maxHeartbeats 4000000
/-! the package's nets -/
namespace Kn
open PySem PySem.Spec PyProof.Rows L2 Evl
local macro_rules | `(tactic| walk_at "ev") => `(tactic| first
  | ((with_reducible apply ev_var); exact rfl)
  | with_reducible exact ev_c
  | with_reducible exact ea_nil
  | ((with_reducible apply ea_cons) <;> walk_at "ev")
  | ((with_reducible apply ev_int); walk_at "ev")
  | ((with_reducible apply ev_op) <;> walk_at "ev")
  | ((with_reducible apply ev_un) <;> walk_at "ev")
  | with_reducible exact rv_I0
  | with_reducible exact rv_isN
  | ((with_reducible apply rv_eq); exact rfl)
  | ((with_reducible apply rv_ne); exact rfl)
  | with_reducible exact ru_neg
  | ((with_reducible apply rv_I); first | exact Or.inl (by decide) | decide | assumption | skip)
  | ((with_reducible apply rv_ixL) <;> first | assumption | exact rfl | skip)
  | ((with_reducible apply rv_ixT) <;> first | assumption | exact rfl | skip)
  | ((with_reducible apply ev_fld) <;> first | walk_at "ev" | assumption | exact rfl | skip)
  | ((with_reducible apply ev_len) <;> first | walk_at "ev" | assumption | skip)
  | ((with_reducible apply ev_lenT) <;> first | walk_at "ev" | assumption | skip)
  | exact rv_eq rfl
  | exact rv_ne rfl
  | assumption
  | skip)
def stF (fo ia b u no mi ke : Addr) : List (Str × V) := putF "kept" (.ref ke) (putF "missed" (.ref mi) (putF "notes" (.ref no) (putF "are_up" (.ref u) (putF "bag" (.ref b) (putF "inputs" (.ref ia) (putF "folk" (.ref fo) []))))))
section
variable {fo ia b u no mi ke : Addr}
theorem st_folk : (stF fo ia b u no mi ke).lookup ("folk" : Str) = some (.ref fo) := lk_miss (by decide +kernel) (lk_miss (by decide +kernel) (lk_miss (by decide +kernel) (lk_miss (by decide +kernel) (lk_miss (by decide +kernel) (lk_miss (by decide +kernel) lk_hit)))))
theorem st_inputs : (stF fo ia b u no mi ke).lookup ("inputs" : Str) = some (.ref ia) := lk_miss (by decide +kernel) (lk_miss (by decide +kernel) (lk_miss (by decide +kernel) (lk_miss (by decide +kernel) (lk_miss (by decide +kernel) lk_hit))))
theorem st_bag : (stF fo ia b u no mi ke).lookup ("bag" : Str) = some (.ref b) := lk_miss (by decide +kernel) (lk_miss (by decide +kernel) (lk_miss (by decide +kernel) (lk_miss (by decide +kernel) lk_hit)))
theorem st_up : (stF fo ia b u no mi ke).lookup ("are_up" : Str) = some (.ref u) := lk_miss (by decide +kernel) (lk_miss (by decide +kernel) (lk_miss (by decide +kernel) lk_hit))
theorem st_notes : (stF fo ia b u no mi ke).lookup ("notes" : Str) = some (.ref no) := lk_miss (by decide +kernel) (lk_miss (by decide +kernel) lk_hit)
theorem st_missed : (stF fo ia b u no mi ke).lookup ("missed" : Str) = some (.ref mi) := lk_miss (by decide +kernel) lk_hit
theorem st_kept : (stF fo ia b u no mi ke).lookup ("kept" : Str) = some (.ref ke) := lk_hit
end
structure StOk (W : Wd) (H : Hp) (st : Addr) (c : Re) (fo ia : Addr) (s : Sh) (ins : List Int) : Prop where
  st : ∃ dx, H st = some (.ins (cS W) dx (stF fo ia c.bag c.up c.notes c.missed c.kept))
  f : FolkAt W H fo s
  i : H ia = some (.tup (ins.map V.int))
  ok : s.Ok
  n3 : 3 ≤ ins.length
  n5 : ins.length ≤ 5
  io : ∀ i, i < ins.length → (ins.getD i 0).natAbs < 2 ^ 64
theorem StOk.ex {W : Wd} {H H' : Hp} {st : Addr} {c : Re} {fo ia : Addr} {s : Sh} {ins : List Int} (h : StOk W H st c fo ia s ins) (e : Ex H H') : StOk W H' st c fo ia s ins :=
  ⟨h.st.elim fun dx q => ⟨dx, e _ _ q⟩, h.f.ex e, e _ _ h.i, h.ok, h.n3, h.n5, h.io⟩
section
variable {W : Wd} {σ : L2.St} {H : Hp} {ta tb : TE} {st : Addr} {c : Re} {fo ia : Addr} {s : Sh} {ins : List Int}
theorem ev_st {f : Str} {v : V} (T : TopW W) (h : StOk W H st c fo ia s ins) (ha : Ev ta σ H (.ref st)) (na : NoAttr W.K (cS W) f) (lk : (stF fo ia c.bag c.up c.notes c.missed c.kept).lookup f = some v) : Ev (tFld W.K ta f) σ H v := by
  obtain ⟨dx, q⟩ := h.st
  exact ev_fld ha q T.cls_State na lk
theorem ev_ixm {K : PySem.W.Frag} {a : Addr} {n i : Nat} {f : Nat → V} (h : H a = some (.lst ((List.range n).map f))) (hi : i < n) (ha : Ev ta σ H (.ref a)) (hb : Ev tb σ H (.int (i : Nat))) : Ev (tOp (rIxL K) ta tb) σ H (f i) :=
  ev_op ha hb (rv_ixL (sq_of h) (atI_nat (map_get hi)))
theorem ev_ixr {K : PySem.W.Frag} {a : Addr} {n i : Nat} {g : Nat → Addr} (h : H a = some (.lst ((List.range n).map fun i => .ref (g i)))) (hi : i < n) (ha : Ev ta σ H (.ref a)) (hb : Ev tb σ H (.int (i : Nat))) : Ev (tOp (rIxL K) ta tb) σ H (.ref (g i)) :=
  ev_ixm (f := fun i => .ref (g i)) h hi ha hb
theorem nat_eq_dec {i j : Nat} : decide (V.int (i : Nat) = V.int (j : Nat)) = decide (i = j) := decide_eq_decide.2 ⟨fun h => Int.ofNat.inj (V.int.inj h), fun h => by rw [h]⟩
theorem nat_ne_dec {i j : Nat} : (!decide (V.int (i : Nat) = V.int (j : Nat))) = decide (i ≠ j) := by rw [nat_eq_dec, decide_not]
end
def sp_many_of (W : Wd) : GS := fun vs H Q => ∃ (st : Addr) (c : Re) (fo ia : Addr) (s : Sh) (ins : List Int), vs = [.ref st] ∧ StOk W H st c fo ia s ins ∧ Ret (MP.eq (.int (ins.length : Nat))).p H Q
abbrev N_many_of : List Str := ["state"]
theorem sc_many_of : FnScope N_many_of ["state"] (defScope s_many_of) := ⟨rfl, rfl, rfl, by decide +kernel, rfl, by decide +kernel, by decide +kernel⟩
theorem C_many_of {W : Wd} (T : TopW W) : Cal W "many_of" 1 (sp_many_of W) := by
  refine cal_mk T (d := d_many_of) (ps := ["state"]) 23 21 rfl rfl rfl rfl rfl fun f fd F => ⟨fng_of F sc_many_of (fun vs H Q h => ?_) (fun cdv A outer s H vs Q hr hg h => ?_), F.bindsN fun _ _ _ _ _ _ us hl => match us, hl with | [_], _ => rfl⟩
  · obtain ⟨st, c, fo, ia, s, ins, h0, so, q⟩ := h
    first | rfl | (subst h0; rfl)
  · have hu := hu_of hr
    have nd := sc_many_of.nd
    obtain ⟨st, c, fo, ia, s, ins, h0, so, q⟩ := h
    try subst h0
    refine ⟨_, (pss_one (ps_ret (pe_callB (cr_lenk (K := W.K) rfl) rfl T.free_len boot_len (pa_cons (pe_fldk (K := W.K) rfl (pv 0) rfl) pa_nil)))), ?_⟩
    have len : (ins.map V.int).length = ins.length := List.length_map _
    rw [← len] at q
    exact s_retE (ev_lenT (ev_st T so (ev_var rfl) T.noat_State_inputs st_inputs) (st_of so.i)) q
def sp_done_by (W : Wd) : GS := fun vs H Q => ∃ (st : Addr) (c : Re) (fo ia : Addr) (s : Sh) (ins : List Int) (S : NS) (me : Nat), vs = [.ref st, .int me] ∧ StOk W H st c fo ia s ins ∧ NetAt H ins.length c S ∧ me < ins.length ∧ Ret (MP.eq (.int (S.done me : Nat))).p H Q
abbrev N_done_by : List Str := ["state", "me"]
theorem sc_done_by : FnScope N_done_by ["state", "me"] (defScope s_done_by) := ⟨rfl, rfl, rfl, by decide +kernel, rfl, by decide +kernel, by decide +kernel⟩
theorem C_done_by {W : Wd} (T : TopW W) : Cal W "done_by" 1 (sp_done_by W) := by
  refine cal_mk T (d := d_done_by) (ps := ["state", "me"]) 24 22 rfl rfl rfl rfl rfl fun f fd F => ⟨fng_of F sc_done_by (fun vs H Q h => ?_) (fun cdv A outer s H vs Q hr hg h => ?_), F.bindsN fun _ _ _ _ _ _ us hl => match us, hl with | [_, _], _ => rfl⟩
  · obtain ⟨st, c, fo, ia, s, ins, S, me, h0, so, N, hm, q⟩ := h
    first | rfl | (subst h0; rfl)
  · have hu := hu_of hr
    have nd := sc_done_by.nd
    obtain ⟨st, c, fo, ia, s, ins, S, me, h0, so, N, hm, q⟩ := h
    try subst h0
    refine ⟨_, (pss_one (ps_ret (pe_callB (cr_lenk (K := W.K) rfl) rfl T.free_len boot_len (pa_cons (pe_ixlk (K := W.K) rfl (pe_fldk (K := W.K) rfl (pv 0) rfl) (pv 1) (fun _ _ => rfl)) pa_nil)))), ?_⟩
    have len : ((S.miss me).map oV).length = S.done me := List.length_map _
    rw [← len] at q
    exact s_retE (ev_len (ev_ixr N.missed hm (ev_st T so (ev_var rfl) T.noat_State_missed st_missed) (ev_var rfl)) (sq_of (N.mi me hm))) q
def sp_has_rounds (W : Wd) : GS := fun vs H Q => ∃ (st : Addr) (c : Re) (fo ia : Addr) (s : Sh) (ins : List Int) (S : NS) (me : Nat), vs = [.ref st, .int me] ∧ StOk W H st c fo ia s ins ∧ NetAt H ins.length c S ∧ me < ins.length ∧ Ret (MP.eq (.bl (decide (S.done me < s.rounds)))).p H Q
theorem nat_lt_dec {a b : Nat} : decide ((a : Int) < (b : Int)) = decide (a < b) := decide_eq_decide.2 Int.ofNat_lt
abbrev N_has_rounds : List Str := ["state", "me"]
theorem sc_has_rounds : FnScope N_has_rounds ["state", "me"] (defScope s_has_rounds) := ⟨rfl, rfl, rfl, by decide +kernel, rfl, by decide +kernel, by decide +kernel⟩
theorem C_has_rounds {W : Wd} (T : TopW W) : Cal W "has_rounds" 2 (sp_has_rounds W) := by
  have C_done_by := C_done_by T
  refine cal_mk T (d := d_has_rounds) (ps := ["state", "me"]) 25 23 rfl rfl rfl rfl rfl fun f fd F => ⟨fng_of F sc_has_rounds (fun vs H Q h => ?_) (fun cdv A outer s H vs Q hr hg h => ?_), F.bindsN fun _ _ _ _ _ _ us hl => match us, hl with | [_, _], _ => rfl⟩
  · obtain ⟨st, c, fo, ia, s, ins, S, me, h0, so, N, hm, q⟩ := h
    first | rfl | (subst h0; rfl)
  · have hu := hu_of hr
    have nd := sc_has_rounds.nd
    obtain ⟨st, c, fo, ia, s, ins, S, me, h0, so, N, hm, q⟩ := h
    try subst h0
    refine ⟨_, (pss_one (ps_ret (pe_cmpR op_lt (pe_cal C_done_by rfl hr (by decide) hg rfl (pa_cons (pv 0) (pa_cons (pv 1) pa_nil))) (pe_fldk (K := W.K) rfl (pe_fldk (K := W.K) rfl (pv 0) rfl) rfl) (nomark _)))), ?_⟩
    rw [← nat_lt_dec] at q
    obtain ⟨dx, f1, f2, f3, cc, sh, h1, _⟩ := so.f
    exact s_retE (ev_op (ev_calR (by walk_at "ev") fun H1 e Q k => ⟨st, c, fo, ia, s, ins, S, me, rfl, so.ex e, N.exx e, hm, k⟩) (ev_fld (ev_st T so (ev_var rfl) T.noat_State_folk st_folk) h1 T.cls_Folk T.noat_Folk_rounds folk_rounds) rv_I0) q
def sp_lacking (W : Wd) : GS := fun vs H Q => ∃ (st : Addr) (c : Re) (fo ia : Addr) (s : Sh) (ins : List Int) (S : NS) (me : Nat), vs = [.ref st, .int me] ∧ StOk W H st c fo ia s ins ∧ NetAt H ins.length c S ∧ me < ins.length ∧
  ∀ p H', H p = none → Ex H H' → H' p = some (.lst ((lacksS S ins.length me).map fun o => .int (o : Nat))) → Q (.ref p) H'
section
variable {W : Wd} {K : PySem.W.Frag} {σ : L2.St} {H : Hp} {td ty : TE} {d : Addr} {kvs : List (List Key × V)} {r j : Nat}
/-- (r, j) in d, the dict at d -/
theorem ev_dni (hd : Ev td σ H (.ref d)) (hk : H d = some (.dT kvs)) (hy : EvU ty σ H [.int (r : Nat), .int (j : Nat)]) : Ev (tDNotIn ty td) σ H (.bl (!(valV kvs (k2 r j)).isSome)) := fun H1 e Q q =>
  hy H1 e _ fun p H2 hp e2 hpp => hd H2 (e.trans e2) _ fun H3 e3 => ⟨d, _, rfl, DGet.t (((e.trans e2).trans e3) _ _ hk) (k := k2 r j) (e3 _ _ hpp), q H3 (e2.trans e3)⟩
theorem ev_dget1 (hd : Ev td σ H (.ref d)) (hk : H d = some (.dT kvs)) (hy : EvU ty σ H [.int (r : Nat), .int (j : Nat)]) : Ev (tDGet1 td ty) σ H ((valV kvs (k2 r j)).getD .non) := fun H1 e Q q =>
  hd H1 e _ fun H2 e2 => ⟨d, rfl, .inr ⟨kvs, .inl ((e.trans e2) _ _ hk)⟩, hy H2 (e.trans e2) _ fun p H3 hp e3 hpp => ⟨_, DGet.t (((e.trans e2).trans e3) _ _ hk) (k := k2 r j) hpp, q H3 (e2.trans e3)⟩⟩
end
theorem KeptOk.in {H : Hp} {S : NS} {me j : Nat} {kvs : List (List Key × V)} (h : KeptOk H S me kvs) : (valV kvs (k2 (S.done me) j)).isSome = S.K me (S.done me) j := by
  cases e : valV kvs (k2 (S.done me) j) with
  | none => exact (h.none _ _ (Nat.le_refl _) e).symm
  | some v => exact (h.some _ _ _ (Nat.le_refl _) e).1.symm
theorem given_ints {n : Nat} {f : Nat → Bool} : given n f (fun i => V.int (i : Nat)) = ((List.range n).filter f).map fun o => V.int (o : Nat) := rfl
abbrev N_lacking : List Str := ["state", "me", "here", "other"]
theorem sc_lacking : FnScope N_lacking ["state", "me"] (defScope s_lacking) := ⟨rfl, rfl, rfl, by decide +kernel, rfl, by decide +kernel, by decide +kernel⟩
theorem C_lacking {W : Wd} (T : TopW W) : Cal W "lacking" 2 (sp_lacking W) := by
  have C_done_by := C_done_by T
  have C_many_of := C_many_of T
  refine cal_mk T (d := d_lacking) (ps := ["state", "me"]) 28 26 rfl rfl rfl rfl rfl fun f fd F => ⟨fng_of F sc_lacking (fun vs H Q h => ?_) (fun cdv A outer s H vs Q hr hg h => ?_), F.bindsN fun _ _ _ _ _ _ us hl => match us, hl with | [_, _], _ => rfl⟩
  · obtain ⟨st, c, fo, ia, s, ins, S, me, h0, so, N, hm, q⟩ := h
    first | rfl | (subst h0; rfl)
  · have hu := hu_of hr
    have nd := sc_lacking.nd
    obtain ⟨st, c, fo, ia, s, ins, S, me, h0, so, N, hm, q⟩ := h
    try subst h0
    refine ⟨_, (pss_cons (ps_set (i := 2) nd rfl (Or.inr rfl) (pe_cal C_done_by rfl hr (by decide) hg rfl (pa_cons (pv 0) (pa_cons (pv 1) pa_nil)))) (pss_one (ps_ret (pe_lc (own := [("other", 3)]) rfl nd (pi_range1 rfl T.free_range (pa_cons (pe_cal C_many_of rfl hr (by decide) hg rfl (pa_cons (pv 0) pa_nil)) pa_nil)) (blkOk_by (own := [("other", 3)]) (N := N_lacking) (sc := defScope s_lacking) (by decide +kernel)) (fun _ _ _ _ _ => (pg_name (i := 3) nd rfl (Or.inl rfl))) (fun _ _ _ _ _ => (pts_one (PW.pt (pw_and (pt_cmpR op_ne (pv 3) (pv 1) (nomark _)) (pw_and1 (pt_cmp (pc_dnotin hu (pe_tup (pa_cons (pv 2) (pa_cons (pv 3) pa_nil))) (pe_ixlk (K := W.K) rfl (pe_fldk (K := W.K) rfl (pv 0) rfl) (pv 1) (fun _ _ => rfl))) rfl)))))) (fun _ _ _ _ _ => (pv 3)))))), ?_⟩
    refine q_asg (v := .int (S.done me : Nat)) (ev_calR (by walk_at "ev") fun H1 e Q k => ⟨st, c, fo, ia, s, ins, S, me, rfl, so.ex e, N.exx e, hm, k⟩) fun H1 e1 => ?_
    have so1 := so.ex e1
    have N1 := N.exx e1
    obtain ⟨kvs, hk1, hk2, hk3⟩ := N1.ke me hm
    have n5 := so.n5
    have hL : lacksS S ins.length me = (List.range ins.length).filter fun o => decide (o ≠ me) && !(valV kvs (k2 (S.done me) o)).isSome := by
      unfold lacksS
      refine List.filter_congr fun o _ => ?_
      rw [hk3.in]
    refine s_retL (xs := (lacksS S ins.length me).map fun o => .int (o : Nat)) ?_ fun p H2 hp e2 h2 => q p H2 (fresh_back e1 hp) (e1.trans e2) h2
    rw [hL, ← given_ints]
    refine el_lcR1 (n := (ins.length : Nat)) (fun o => decide (o ≠ me) && !(valV kvs (k2 (S.done me) o)).isSome) (fun i => V.int (i : Nat)) (ea_cons (ev_calR (by walk_at "ev") fun H2 e Q k => ⟨st, c, fo, ia, s, ins, rfl, so1.ex e, k⟩) ea_nil) ⟨by omega, by omega⟩ (fun _ => rfl) ?_ ?_
    · intro i H2 e2 hi
      have so2 := so1.ex e2
      have N2 := N1.exx e2
      refine et_and (et_test (ev_is (ev_op (ev_var rfl) (ev_var rfl) (rv_ne rfl)) (by rw [nat_ne_dec]))) fun _ => et_B (ev_dni (ev_ixr N2.kept hm (ev_st T so2 (ev_var rfl) T.noat_State_kept st_kept) (ev_var rfl)) (e2 _ _ hk1) (eu_tup (by walk_at "ev") (by simp)))
    · intro i H2 e2 hi _
      exact ev_var rfl
def sp_can_go (W : Wd) : GS := fun vs H Q => ∃ (st : Addr) (c : Re) (fo ia : Addr) (s : Sh) (ins : List Int) (S : NS) (me : Nat), vs = [.ref st, .int me] ∧ StOk W H st c fo ia s ins ∧ NetAt H ins.length c S ∧ me < ins.length ∧ Ret (MP.eq (.bl (decide (S.done me < s.rounds) && decide ((lacksS S ins.length me).length ≤ 1)))).p H Q
abbrev N_can_go : List Str := ["state", "me"]
theorem sc_can_go : FnScope N_can_go ["state", "me"] (defScope s_can_go) := ⟨rfl, rfl, rfl, by decide +kernel, rfl, by decide +kernel, by decide +kernel⟩
theorem C_can_go {W : Wd} (T : TopW W) : Cal W "can_go" 3 (sp_can_go W) := by
  have C_has_rounds := C_has_rounds T
  have C_lacking := C_lacking T
  refine cal_mk T (d := d_can_go) (ps := ["state", "me"]) 29 27 rfl rfl rfl rfl rfl fun f fd F => ⟨fng_of F sc_can_go (fun vs H Q h => ?_) (fun cdv A outer s H vs Q hr hg h => ?_), F.bindsN fun _ _ _ _ _ _ us hl => match us, hl with | [_, _], _ => rfl⟩
  · obtain ⟨st, c, fo, ia, s, ins, S, me, h0, so, N, hm, q⟩ := h
    first | rfl | (subst h0; rfl)
  · have hu := hu_of hr
    have nd := sc_can_go.nd
    obtain ⟨st, c, fo, ia, s, ins, S, me, h0, so, N, hm, q⟩ := h
    try subst h0
    refine ⟨_, (pss_one (ps_ret (pe_and (pe_cal C_has_rounds rfl hr (by decide) hg rfl (pa_cons (pv 0) (pa_cons (pv 1) pa_nil))) (pe_one (pe_cmpR op_le (pe_callB (cr_lenk (K := W.K) rfl) rfl T.free_len boot_len (pa_cons (pe_cal C_lacking rfl hr (by decide) hg rfl (pa_cons (pv 0) (pa_cons (pv 1) pa_nil))) pa_nil)) pe_int (nomark _)))))), ?_⟩
    refine s_retE (ev_andV (ev_calR (by walk_at "ev") fun H1 e Q k => ⟨st, c, fo, ia, s, ins, S, me, rfl, so.ex e, N.exx e, hm, k⟩) fun _ => ev_is (ev_op (ev_lenN (xs := (lacksS S ins.length me).map fun o => .int (o : Nat)) fun H1 e Q k => ⟨_, rfl, _, rfl, st, c, fo, ia, s, ins, S, me, rfl, so.ex e, N.exx e, hm, k⟩) ev_c rv_I0) ?_) q
    show V.bl (decide ((((lacksS S ins.length me).map fun o => V.int (o : Nat)).length : Int) ≤ 1)) = _
    rw [List.length_map]
    exact congrArg V.bl (decide_eq_decide.2 (by omega))
/-- a net of the package, what is fixed of it in Hs -/
structure NetW (W : Wd) (Hs H : Hp) (st : Addr) (c : Re) (fo ia : Addr) (s : Sh) (ins : List Int) (S : NS) : Prop where
  ex : Ex Hs H
  st : StOk W Hs st c fo ia s ins
  free : ∀ a, c.Fp ins.length a → Hs a = none
  net : NetAt H ins.length c S
theorem NetW.so {W : Wd} {Hs H : Hp} {st : Addr} {c : Re} {fo ia : Addr} {s : Sh} {ins : List Int} {S : NS} (h : NetW W Hs H st c fo ia s ins S) : StOk W H st c fo ia s ins := h.st.ex h.ex
theorem NetW.exx {W : Wd} {Hs H H' : Hp} {st : Addr} {c : Re} {fo ia : Addr} {s : Sh} {ins : List Int} {S : NS} (h : NetW W Hs H st c fo ia s ins S) (e : Ex H H') : NetW W Hs H' st c fo ia s ins S := ⟨h.ex.trans e, h.st, h.free, h.net.exx e⟩
/-- all but M is kept, M is of the net: what is fixed is kept -/
theorem NetW.exf {W : Wd} {Hs H H' : Hp} {st : Addr} {c : Re} {fo ia : Addr} {s : Sh} {ins : List Int} {S : NS} {M : Addr → Prop} (h : NetW W Hs H st c fo ia s ins S) (e : Fr M H H') (k : ∀ a, M a → c.Fp ins.length a) : Ex Hs H' :=
  fun a o q => e a o (h.ex a o q) fun z => by
    rw [h.free a (k a z)] at q
    cases q
theorem lets_succ {i me r : Nat} : lets (i + 1) me r = if i = me then lets i me r else lets i me r ++ [(i, me, r)] := by
  unfold lets
  rw [List.range_succ, List.filter_append, List.map_append]
  by_cases h : i = me
  · simp [h]
  · simp [h]
theorem lets_le {n me r : Nat} : (lets n me r).length ≤ n := by
  unfold lets
  rw [List.length_map]
  have := List.length_filter_le (fun o => decide (o ≠ me)) (List.range n)
  rw [List.length_range] at this
  exact this
def sp_write (W : Wd) : GS := fun vs H Q => ∃ (Hs : Hp) (st : Addr) (c : Re) (fo ia : Addr) (s : Sh) (ins : List Int) (S : NS) (me r : Nat), vs = [.ref st, .int me, .int r] ∧ NetW W Hs H st c fo ia s ins S ∧ me < ins.length ∧ r ≤ S.done me ∧ S.bag.length ≤ 90000 ∧
  ∀ H', Fr (fun a => a = c.bag) H H' → NetAt H' ins.length c (wroteS S ins.length me r) → Q .non H'
/-- one more letter -/
theorem NetAt.letter {H H1 : Hp} {n : Nat} {c : Re} {S : NS} {ls : List V} {to me r : Nat} {m : V} {p : Addr} (N : NetAt H n c S) (hb : H c.bag = some (.lst ls)) (e : Ex H H1) (hp : H1 p = some (.tup [.int (to : Nat), .int (me : Nat), .int (r : Nat), m])) (hm : IsD H m (S.note me r)) :
    NetAt (upd H1 c.bag (.lst (ls ++ [.ref p]))) n c { S with bag := S.bag ++ [(to, me, r)] } := by
  obtain ⟨ls2, b1, b2, b3⟩ := N.bag
  have : ls2 = ls := by
    rw [b1] at hb
    exact HO.lst.inj (Option.some.inj hb)
  subst this
  have h1 := e _ _ b1
  have fr1 : FrT H1 (upd H1 c.bag (.lst (ls2 ++ [.ref p]))) := FrT.new fun xs q => by rw [h1] at q; cases q
  have fr : FrT H (upd H1 c.bag (.lst (ls2 ++ [.ref p]))) := (Ex.frT e).trans fr1
  refine N.bagged (fun a o h z => (upd_ne z).trans (e _ _ h)) upd_same (by simp [b2]) fun i v l x y => ?_
  by_cases hi : i < ls2.length
  · rw [List.getElem?_append_left hi] at x
    rw [List.getElem?_append_left (by omega)] at y
    exact (b3 i v l x y).up fr
  · have hi2 : i = ls2.length := by
      have := (List.getElem?_eq_some_iff.1 x).1
      simp at this
      omega
    subst hi2
    simp at x
    rw [b2] at y
    simp at y
    subst x y
    exact ⟨p, m, rfl, fr1 _ _ hp, hm.up fr⟩
abbrev N_write : List Str := ["state", "me", "round_number", "memory", "other"]
theorem sc_write : FnScope N_write ["state", "me", "round_number"] (defScope s_write) := ⟨rfl, rfl, rfl, by decide +kernel, rfl, by decide +kernel, by decide +kernel⟩
theorem C_write {W : Wd} (T : TopW W) : Cal W "write" 2 (sp_write W) := by
  have C_many_of := C_many_of T
  refine cal_mk T (d := d_write) (ps := ["state", "me", "round_number"]) 26 24 rfl rfl rfl rfl rfl fun f fd F => ⟨fng_of F sc_write (fun vs H Q h => ?_) (fun cdv A outer s H vs Q hr hg h => ?_), F.bindsN fun _ _ _ _ _ _ us hl => match us, hl with | [_, _, _], _ => rfl⟩
  · obtain ⟨Hs, st, c, fo, ia, s, ins, S, me, r, h0, NW, hm, hrd, hb, q⟩ := h
    first | rfl | (subst h0; rfl)
  · have hu := hu_of hr
    have nd := sc_write.nd
    obtain ⟨Hs, st, c, fo, ia, s, ins, S, me, r, h0, NW, hm, hrd, hb, q⟩ := h
    try subst h0
    refine ⟨_, (pss_cons (ps_set (i := 3) nd rfl (Or.inl rfl) (pe_ixlk (K := W.K) rfl (pe_ixlk (K := W.K) rfl (pe_fldk (K := W.K) rfl (pv 0) rfl) (pv 1) (fun _ _ => rfl)) (pv 2) (fun _ _ => rfl))) (pss_one (ps_for PassesOwn.never rfl (pi_range1 rfl T.free_range (pa_cons (pe_cal C_many_of rfl hr (by decide) hg rfl (pa_cons (pv 0) pa_nil)) pa_nil)) (pg_name (i := 4) nd rfl (Or.inl rfl)) (pss_one (ps_if (pt_cmpR op_ne (pv 4) (pv 1) (nomark _)) (pss_one (ps_expr (pe_bm PySem.F.plainAttrs_list PySem.F.slot_list_append PySem.F.type_list_append mt_append (pe_fldk (K := W.K) rfl (pv 0) rfl) (pa_cons (pe_tup (pa_cons (pv 4) (pa_cons (pv 1) (pa_cons (pv 2) (pa_cons (pv 3) pa_nil))))) pa_nil)))) pss_nil))))), ?_⟩
    have N := NW.net
    have n5 := NW.st.n5
    obtain ⟨vs, hv1, hv2, hv3⟩ := N.no me hm
    have hrl : r < vs.length := by omega
    have hx : vs[r]? = some vs[r] := by simp [hrl]
    have hmd := hv3 r _ hx
    generalize vs[r] = m at hx hmd
    refine q_asg (v := m) (ev_op (ev_ixr N.notes hm (ev_st T NW.so (ev_var rfl) T.noat_State_notes st_notes) (ev_var rfl)) (ev_var rfl) (rv_ixL (sq_of hv1) (atI_nat hx))) fun H1 e1 => ?_
    have NW1 := NW.exx e1
    refine s_forR1 (n := (ins.length : Nat)) (ea_cons (ev_calR (by walk_at "ev") fun H2 e Q k => ⟨st, c, fo, ia, s, ins, rfl, NW1.so.ex e, k⟩) ea_nil) ⟨by omega, by omega⟩
      (fun i σ' H' => Fr (fun a => a = c.bag) H H' ∧ NetAt H' ins.length c { S with bag := S.bag ++ lets i me r } ∧ IsD H' m (S.note me r) ∧ ∃ y : Option V, σ' = [some (.ref st), some (.int me), some (.int r), some m, y]) (fun H2 e2 => ⟨Fr.ex (e1.trans e2), ?_, hmd.ex (e1.trans e2), none, rfl⟩) ?_ ?_
    · have : lets 0 me r = [] := rfl
      rw [this, List.append_nil]
      exact N.exx (e1.trans e2)
    · rintro i σ' H2 hi ⟨f2, N2, hm2, _, rfl⟩
      have hs2 := NW.exf f2 fun a z => .inl z
      have so2 := NW.st.ex hs2
      have hle := lets_le (n := i) (me := me) (r := r)
      refine s_when (b := decide (i ≠ me)) (et_test (ev_is (ev_op (ev_var rfl) (ev_var rfl) (rv_ne rfl)) (by rw [nat_ne_dec]))) (fun h H3 e3 => ?_) fun h H3 e3 => ?_
      · obtain ⟨ls, b1, b2, b3⟩ := N2.bag
        have b2 : ls.length = (S.bag ++ lets i me r).length := b2
        rw [List.length_append] at b2
        refine s_appU (e3 _ _ b1) (ev_st T (so2.ex e3) (ev_var rfl) T.noat_State_bag st_bag) (eu_tup (vs := [.int (i : Nat), .int (me : Nat), .int (r : Nat), m]) (by walk_at "ev") (by simp)) (by omega) fun p H4 hp e4 hp4 => ?_
        have := N2.letter (to := i) (me := me) (r := r) (m := m) b1 (e3.trans e4) hp4 hm2
        rw [List.append_assoc] at this
        have h4 := (e3.trans e4) _ _ b1
        refine ⟨fun a o ha z => (upd_ne z).trans ((e3.trans e4) _ _ (f2 a o ha z)), ?_, hm2.up ((Ex.frT (e3.trans e4)).trans (FrT.new fun xs q => by rw [h4] at q; cases q)), _, rfl⟩
        rw [lets_succ, if_neg (of_decide_eq_true h)]
        exact this
      · refine ⟨f2.trans (Fr.ex e3), ?_, hm2.ex e3, _, rfl⟩
        have : i = me := by simpa using h
        rw [lets_succ, if_pos this]
        exact N2.exx e3
    · rintro σ' H2 ⟨f2, N2, _⟩
      exact q H2 f2 N2
def sp_come (W : Wd) : GS := fun vs H Q => ∃ (Hs : Hp) (st : Addr) (c : Re) (fo ia : Addr) (s : Sh) (ins : List Int) (S : NS) (k : Nat), vs = [.ref st, .int k] ∧ NetW W Hs H st c fo ia s ins S ∧ InvS s ins.length ins S ∧ k < S.bag.length ∧ S.t < 90000 ∧ S.bag.length ≤ 90000 ∧
  ∀ H', Fr (c.Fp ins.length) H H' → NetAt H' ins.length c { comeS S k with t := S.t + 1 } → Q .non H'
theorem come_eq {S : NS} {k : Nat} {l : Nat × Nat × Nat} (h : S.bag[k]? = some l) : comeS S k = { S with bag := S.bag.eraseIdx k, K := if S.done l.1 ≤ l.2.2 then setN S.K l.1 (setN (S.K l.1) l.2.2 (setN (S.K l.1 l.2.2) l.2.1 true)) else S.K } := by
  unfold comeS
  rw [h]
/-- a letter taken out -/
theorem NetAt.popped {H H1 : Hp} {n : Nat} {c : Re} {S : NS} {ls : List V} {k : Nat} (N : NetAt H n c S) (hb : H c.bag = some (.lst ls)) (e : Ex H H1) : NetAt (upd H1 c.bag (.lst (ls.eraseIdx k))) n c { S with bag := S.bag.eraseIdx k } := by
  obtain ⟨ls2, b1, b2, b3⟩ := N.bag
  have : ls2 = ls := by
    rw [b1] at hb
    exact HO.lst.inj (Option.some.inj hb)
  subst this
  have h1 := e _ _ b1
  have fr : FrT H (upd H1 c.bag (.lst (ls2.eraseIdx k))) := (Ex.frT e).trans (FrT.new fun xs q => by rw [h1] at q; cases q)
  refine N.bagged (fun a o h z => (upd_ne z).trans (e _ _ h)) upd_same ?_ fun i v l x y => ?_
  · rw [List.length_eraseIdx, List.length_eraseIdx, b2]
  · rw [erase_get] at x y
    by_cases hi : i < k
    · rw [if_pos hi] at x y
      exact (b3 i v l x y).up fr
    · rw [if_neg hi] at x y
      exact (b3 (i + 1) v l x y).up fr
abbrev N_come : List Str := ["state", "place", "me", "other", "round_number", "memory"]
theorem sc_come : FnScope N_come ["state", "place"] (defScope s_come) := ⟨rfl, rfl, rfl, by decide +kernel, rfl, by decide +kernel, by decide +kernel⟩
theorem C_come {W : Wd} (T : TopW W) : Cal W "come" 2 (sp_come W) := by
  have C_done_by := C_done_by T
  refine cal_mk T (d := d_come) (ps := ["state", "place"]) 31 29 rfl rfl rfl rfl rfl fun f fd F => ⟨fng_of F sc_come (fun vs H Q h => ?_) (fun cdv A outer s H vs Q hr hg h => ?_), F.bindsN fun _ _ _ _ _ _ us hl => match us, hl with | [_, _], _ => rfl⟩
  · obtain ⟨Hs, st, c, fo, ia, s, ins, S, k, h0, NW, I, hk, ht, hbz, q⟩ := h
    first | rfl | (subst h0; rfl)
  · have hu := hu_of hr
    have nd := sc_come.nd
    obtain ⟨Hs, st, c, fo, ia, s, ins, S, k, h0, NW, I, hk, ht, hbz, q⟩ := h
    try subst h0
    refine ⟨_, (pss_cons (ps_asg (pe_bm PySem.F.plainAttrs_list PySem.F.slot_list_pop PySem.F.type_list_pop mt_popAt (pe_fldk (K := W.K) rfl (pv 0) rfl) (pa_cons (pv 1) pa_nil)) (pg_tupk (K := W.K) (n := 4) rfl rfl (pgs_cons (pg_name (i := 2) nd rfl (Or.inl rfl)) (pgs_cons (pg_name (i := 3) nd rfl (Or.inl rfl)) (pgs_cons (pg_name (i := 4) nd rfl (Or.inl rfl)) (pgs_cons (pg_name (i := 5) nd rfl (Or.inl rfl)) pgs_nil)))) rfl)) (pss_one (ps_if (pt_cmpR op_ge (pv 4) (pe_cal C_done_by rfl hr (by decide) hg rfl (pa_cons (pv 0) (pa_cons (pv 2) pa_nil))) (nomark _)) (pss_one (ps_expr (KnD.pe_setT hu (pe_ixlk (K := W.K) rfl (pe_fldk (K := W.K) rfl (pv 0) rfl) (pv 2) (fun _ _ => rfl)) (pe_tup (pa_cons (pv 4) (pa_cons (pv 3) pa_nil))) (pv 5) ⟨rfl, rfl, rfl, rfl⟩))) pss_nil))), ?_⟩
    have N := NW.net
    obtain ⟨ls, b1, b2, b3⟩ := N.bag
    have hS : S.bag[k]? = some S.bag[k] := by simp [hk]
    have kl : k < ls.length := by omega
    have hL : ls[k]? = some ls[k] := by simp [kl]
    obtain ⟨p, m, hp1, hp2, hp3⟩ := b3 k _ _ hL hS
    obtain ⟨i1, i2, i3, i4, i5⟩ := I.bag S.bag[k] (List.getElem_mem hk)
    rw [come_eq hS] at q
    generalize S.bag[k] = l at hS hp1 hp2 hp3 i1 i2 i3 i4 i5 q
    have hL := hL.trans (congrArg some hp1)
    refine q_pop b1 (ev_st T NW.so (ev_var rfl) T.noat_State_bag st_bag) (ev_var rfl) hL hp2 rfl (by omega) fun H1 e1 => ?_
    refine ⟨_, _, rfl, _, _, rfl, _, _, rfl, _, _, rfl, rfl, ?_⟩
    have N1 := N.popped (k := k) b1 e1
    have h1b := e1 _ _ b1
    have f1 : Fr (fun a => a = c.bag) H (upd H1 c.bag (.lst (ls.eraseIdx k))) := fun a o h z => (upd_ne z).trans (e1 _ _ h)
    have fr1 : FrT H (upd H1 c.bag (.lst (ls.eraseIdx k))) := (Ex.frT e1).trans (FrT.new fun xs q => by rw [h1b] at q; cases q)
    generalize upd H1 c.bag (.lst (ls.eraseIdx k)) = H2 at N1 f1 fr1
    have so2 := NW.st.ex (NW.exf f1 fun a z => .inl z)
    have fp : Fr (c.Fp ins.length) H H2 := f1.mono fun a z => .inl z
    refine s_when (b := decide (S.done l.1 ≤ l.2.2)) (et_test (ev_is (ev_op (ev_var rfl) (ev_calR (v := .int (S.done l.1 : Nat)) (by walk_at "ev") fun H3 e Q kq => ⟨st, c, fo, ia, s, ins, { S with bag := S.bag.eraseIdx k }, l.1, rfl, so2.ex e, N1.exx e, i1, kq⟩) rv_I0) ?_)) (fun h H3 e3 => ?_) fun h H3 e3 => ?_
    · exact congrArg V.bl (decide_eq_decide.2 (by omega))
    · have hd := of_decide_eq_true h
      have N3 := N1.exx e3
      obtain ⟨kvs, k1, k2', k3⟩ := N3.ke l.1 i1
      have hm3 : IsD H3 m (S.note l.2.1 l.2.2) := (hp3.up fr1).ex e3
      refine s_setd (ev_ixr N3.kept i1 (ev_st T (so2.ex e3) (ev_var rfl) T.noat_State_kept st_kept) (ev_var rfl)) k1 (eu_tup (by walk_at "ev") (by simp)) (ev_var rfl) (by have : kvs.length ≤ S.t := k2'; omega) (fun v hv H4 e4 => ?_) fun hn H4 e4 => ?_
      · refine q H4 (fp.trans (Fr.ex (e3.trans e4))) ?_
        rw [if_pos hd]
        exact (N3.exx e4).keptIn (me := l.1) i1 (Fr.ex (Ex.refl _)) (e4 _ _ k1) (Nat.le_succ_of_le k2') (Nat.le_succ _) ((k3.had hv).up (Ex.frT e4)) fun i hi => setN_ne hi
      · have k1' := e4 _ _ k1
        have frk : FrT H4 (upd H4 (c.ke l.1) (.dT (putK kvs (k2 l.2.2 l.2.1) m))) := FrT.new fun xs q => by rw [k1'] at q; cases q
        have fk : Fr (fun a => a = c.ke l.1) H4 (upd H4 (c.ke l.1) (.dT (putK kvs (k2 l.2.2 l.2.1) m))) := fun a o h z => (upd_ne z).trans h
        refine q _ ((fp.trans (Fr.ex (e3.trans e4))).trans (fk.mono fun a z => .inr (.inr (.inr (.inr (.inr ⟨l.1, i1, .inr (.inr z)⟩)))))) ?_
        rw [if_pos hd]
        exact (N3.exx e4).keptIn (me := l.1) i1 fk upd_same (Nat.le_trans (length_putK _ _ _) (Nat.succ_le_succ k2')) (Nat.le_succ _) ((k3.put hm3 hn).up ((Ex.frT e4).trans frk)) fun i hi => setN_ne hi
    · refine q H3 (fp.trans (Fr.ex e3)) ?_
      rw [if_neg (of_decide_eq_false h)]
      exact (N1.exx e3).later (Nat.le_succ _)
end Kn

set_option Elab.async false
set_option linter.all false
set_option maxRecDepth 100000
set_option maxHeartbeats 4000000
/-! the package's nets: a round done -/
namespace Kn
open PySem PySem.Spec PyProof.Rows L2 Evl
local macro_rules | `(tactic| walk_at "ev") => `(tactic| first
  | ((with_reducible apply ev_var); exact rfl)
  | with_reducible exact ev_c
  | with_reducible exact ea_nil
  | ((with_reducible apply ea_cons) <;> walk_at "ev")
  | ((with_reducible apply ev_int); walk_at "ev")
  | ((with_reducible apply ev_op) <;> walk_at "ev")
  | ((with_reducible apply ev_un) <;> walk_at "ev")
  | with_reducible exact rv_I0
  | with_reducible exact rv_isN
  | ((with_reducible apply rv_eq); exact rfl)
  | ((with_reducible apply rv_ne); exact rfl)
  | with_reducible exact ru_neg
  | ((with_reducible apply rv_I); first | exact Or.inl (by decide) | decide | assumption | skip)
  | ((with_reducible apply rv_ixL) <;> first | assumption | exact rfl | skip)
  | ((with_reducible apply rv_ixT) <;> first | assumption | exact rfl | skip)
  | ((with_reducible apply ev_fld) <;> first | walk_at "ev" | assumption | exact rfl | skip)
  | ((with_reducible apply ev_len) <;> first | walk_at "ev" | assumption | skip)
  | ((with_reducible apply ev_lenT) <;> first | walk_at "ev" | assumption | skip)
  | exact rv_eq rfl
  | exact rv_ne rfl
  | assumption
  | skip)
section
variable {W : Wd} {K : PySem.W.Frag} {σ : L2.St} {H : Hp} {ta tb tx : TE}
theorem g_set {l : Addr} {xs : List V} {j : Nat} {v : V} {Q : L2.St → Hp → Prop} (hl : H l = some (.lst xs)) (ho : Ev ta σ H (.ref l)) (hi : Ev tb σ H (.int (j : Nat))) (hj : j < xs.length) (k : ∀ H1, Ex H H1 → Q σ (upd H1 l (.lst (xs.set j v)))) : gSub ta tb rSetL v σ H Q :=
  ho H (Ex.refl H) _ fun H2 e2 => hi H2 e2 _ fun H3 e3 => ⟨l, xs, (j : Nat), j, rfl, rfl, (e2.trans e3) _ _ hl, ixN_nat hj, k H3 (e2.trans e3)⟩
/-- f(..) as a statement, the heap changed by it -/
theorem s_mut {sp : GS} {tl : TA} {vs : List V} {D : Ends} (h : EvA tl σ H vs) (k : ∀ H1, Ex H H1 → sp vs H1 fun _ H2 => D.nx σ H2) : tDrop (tCal sp tl) D σ H := h H (Ex.refl H) _ k
theorem q_mut {sp : GS} {tl : TA} {vs : List V} {tz : TS} {D : Ends} (h : EvA tl σ H vs) (k : ∀ H1, Ex H H1 → sp vs H1 fun _ H2 => tz D σ H2) : tSeq (tDrop (tCal sp tl)) tz D σ H := h H (Ex.refl H) _ k
theorem q_of {te : TE} {g : TG} {tz : TS} {D : Ends} (h : te σ H fun x H1 => g x σ H1 (tz D)) : tSeq (tAsg te g) tz D σ H := h
/-- {key: kept[key] for key in kept if key[0] > here} -/
theorem s_dc {d : Addr} {kvs : List (List Key × V)} {here j dv hv : Nat} {Q : VK} (hk : H d = some (.dT kvs)) (hl : kvs.length < 100000) (hkeys : ∀ kv ∈ kvs, ∃ r j, kv.1 = k2 r j)
    (h0 : σ[dv]? = some (some (.ref d))) (h1 : ∀ x, ((wipe σ [j]).set j (some x))[dv]? = some (some (.ref d))) (h2 : ∀ x, ((wipe σ [j]).set j (some x))[hv]? = some (some (.int (here : Nat)))) (h3 : ∀ x, ((wipe σ [j]).set j (some x))[j]? = some (some x))
    (h4 : ∀ x, wipe ((wipe σ [j]).set j (some x)) [j] = wipe σ [j])
    (k : ∀ D H1 ks, H D = none → Ex H H1 → H1 D = some (.dT ks) → ks.length ≤ kvs.length → (∀ kv ∈ ks, ∃ r j, kv.1 = k2 r j) → (∀ k' v, valV ks k' = some v → valV kvs k' = some v) → (∀ r j v, here < r → valV kvs (k2 r j) = some v → valV ks (k2 r j) = some v) → Q (.ref D) H1) :
    tLockE (KnD.tDcT (iKeys (tVar dv)) (gName j) (tTest (tOp (rI0 fun i j => .bl (decide (j < i))) (tOp (rIxT K) (tVar j) (tC (.int 0))) (tVar hv))) (tVar j) (tDGet (tVar dv) (tVar j)) [j]) σ H Q := by
  refine ⟨d, .dT kvs, hk, trivial, fun od => ⟨.ref d, h0, d, od, rfl, .inr ⟨kvs, upd_same, fun D hD => ?_⟩⟩⟩
  have nD : D ≠ d := fun z => by rw [z, upd_same] at hD; cases hD
  have hD0 : H D = none := by rw [← hD, upd_ne nD]
  refine ⟨fun i m H' => m = kvs.length - i ∧ i ≤ kvs.length ∧ (∀ a o, H a = some o → a ≠ d → H' a = some o) ∧ H' d = some (.frz od (.dT kvs)) ∧ ∃ ks, H' D = some (.dT ks) ∧ ks.length ≤ i ∧ (∀ kv ∈ ks, ∃ r j, kv.1 = k2 r j) ∧ (∀ k' v, valV ks k' = some v → valV kvs k' = some v) ∧
    (∀ p r j v, p < i → kvs[p]? = some (k2 r j, v) → here < r → (valV ks (k2 r j)).isSome = true), ⟨kvs.length, by simp, Nat.zero_le _, fun a o h z => ?_, ?_, [], upd_same, Nat.le_refl _, fun _ h => by simp at h, fun _ _ h => by simp [valV_nil] at h, fun _ _ _ _ h => by omega⟩, ?_⟩
  · rw [upd_ne (ne_of_none h hD0), upd_ne z]
    exact h
  · rw [upd_ne nD.symm, upd_same]
  rintro i m H' ⟨rfl, hi, keep, hfd, ks, i1, i2, i3, i4, i5⟩
  have W := walk_keysT (d := d) (o := od) (kvs := kvs)
  by_cases hlt : i < kvs.length
  · refine .inr ⟨W.goes i H' hlt hfd, fun H'' => i + 1 ≤ kvs.length ∧ (∀ a o, H a = some o → a ≠ d → H'' a = some o) ∧ H'' d = some (.frz od (.dT kvs)) ∧ ∃ ks, H'' D = some (.dT ks) ∧ ks.length ≤ i + 1 ∧ (∀ kv ∈ ks, ∃ r j, kv.1 = k2 r j) ∧ (∀ k' v, valV ks k' = some v → valV kvs k' = some v) ∧
      (∀ p r j v, p < i + 1 → kvs[p]? = some (k2 r j, v) → here < r → (valV ks (k2 r j)).isSome = true), fun H'' ⟨a, b⟩ => ⟨kvs.length - (i + 1), by omega, rfl, a, b⟩, fun x H4 y => ?_⟩
    obtain ⟨rfl, kk, v, q, hkv, rfl, hq⟩ := W.yields i H' x H4 hlt hfd y
    obtain ⟨r, jj, hkk⟩ := hkeys _ (List.mem_of_getElem? hkv)
    have hkk : kk = k2 r jj := hkk
    subst hkk
    refine ⟨h4 _, ?_⟩
    have hq' : SqT K H4 q [.int (r : Nat), .int (jj : Nat)] := st_of hq
    refine (show EvT (tTest (tOp (rI0 fun i j => .bl (decide (j < i))) (tOp (rIxT K) (tVar j) (tC (.int 0))) (tVar hv))) ((wipe σ [j]).set j (some (.ref q))) H4 (decide ((here : Int) < (r : Int))) from et_test (ev_op (ev_op (ev_var (h3 _)) ev_c (rv_ixT hq' rfl)) (ev_var (h2 _)) rv_I0)) H4 (Ex.refl _) _ fun H5 e5 => ?_
    have nq : ∀ a o, H a = some o → a ≠ d → H5 a = some o := fun a o h z => e5 _ _ (keep a o h z)
    by_cases hb : here < r
    · refine ite2 (fun _ => ?_) (fun z => absurd (decide_eq_true (by omega)) z)
      obtain ⟨w, hw⟩ : ∃ w, valV kvs (k2 r jj) = some w := by
        cases z : valV kvs (k2 r jj) with
        | some w => exact ⟨w, rfl⟩
        | none => exact absurd (List.mem_map.2 ⟨_, List.mem_of_getElem? hkv, rfl⟩) (valV_not z)
      have fd5 := e5 _ _ hfd
      have hD5 := e5 _ _ i1
      refine ⟨_, h3 _, _, h1 _, _, h3 _, d, w, rfl, .inr ⟨kvs, k2 r jj, q, .inr ⟨od, fd5⟩, rfl, e5 _ _ hq, hw.symm⟩, ks, k2 r jj, q, rfl, e5 _ _ hq, hD5, sz_lt (by omega), hlt, fun a o h z => ?_, ?_, putK ks (k2 r jj) w, upd_same, Nat.le_trans (length_putK _ _ _) (by omega), ?_, fun k' u hu => ?_, fun p r2 j2 v2 hp hkv2 hr2 => ?_⟩
      · rw [upd_ne (ne_of_none h hD0)]
        exact nq a o h z
      · rw [upd_ne nD.symm]
        exact fd5
      · intro kv hkv2
        unfold putK at hkv2
        split at hkv2
        · obtain ⟨x, hx, rfl⟩ := List.mem_map.1 hkv2
          obtain ⟨a, b, e⟩ := i3 x hx
          split
          · exact ⟨a, b, e⟩
          · exact ⟨a, b, e⟩
        · rcases List.mem_append.1 hkv2 with x | x
          · exact i3 kv x
          · simp at x
            exact ⟨r, jj, by rw [x]⟩
      · rw [valV_put] at hu
        by_cases z : k' = k2 r jj
        · rw [if_pos z] at hu
          rw [z, hw]
          exact hu
        · rw [if_neg z] at hu
          exact i4 k' u hu
      · rw [valV_put]
        by_cases z : k2 r2 j2 = k2 r jj
        · rw [if_pos z]
          rfl
        · rw [if_neg z]
          refine i5 p r2 j2 v2 ?_ hkv2 hr2
          by_cases e : p = i
          · subst e
            rw [hkv] at hkv2
            exact absurd (Prod.mk.inj (Option.some.inj hkv2)).1.symm z
          · omega
    · refine ite2 (fun z => absurd (of_decide_eq_true z) (by omega)) fun _ => ⟨hlt, nq, e5 _ _ hfd, ks, e5 _ _ i1, by omega, i3, i4, fun p r2 j2 v2 hp hkv2 hr2 => i5 p r2 j2 v2 ?_ hkv2 hr2⟩
      by_cases e : p = i
      · subst e
        rw [hkv] at hkv2
        have := (k2_inj.1 (Prod.mk.inj (Option.some.inj hkv2)).1).1
        omega
      · omega
  · have hn : i = kvs.length := by omega
    subst hn
    refine .inl ⟨W.stops H' hfd, hfd, k D _ ks hD0 (fun a o h => ?_) ?_ i2 i3 i4 fun r jj v hr hv => ?_⟩
    · by_cases z : a = d
      · subst z
        rw [upd_same, ← h, hk]
      · rw [upd_ne z]
        exact keep a o h z
    · rw [upd_ne nD]
      exact i1
    · have hin := valV_in hv
      obtain ⟨kv, hkv, e⟩ := List.mem_map.1 hin
      obtain ⟨p, hp⟩ := List.getElem?_of_mem hkv
      have hpl := (List.getElem?_eq_some_iff.1 hp).1
      have := i5 p r jj kv.2 hpl (by rw [hp, ← e]) hr
      cases z : valV ks (k2 r jj) with
      | none => rw [z] at this; cases this
      | some u => rw [← hv, ← i4 _ _ z]
end
/-- what an event leaves: what is not of the net is kept, the net is that of S' -/
structure Go (n : Nat) (c : Re) (H : Hp) (c' : Re) (H' : Hp) (S' : NS) : Prop where
  fr : Fr (c.Fp n) H H'
  sub : ∀ a, c'.Fp n a → c.Fp n a ∨ H a = none
  eq : c' = { c with ke := c'.ke }
  net : NetAt H' n c' S'
theorem Go.same {n : Nat} {c : Re} {H H' : Hp} {S' : NS} (fr : Fr (c.Fp n) H H') (N : NetAt H' n c S') : Go n c H c H' S' := ⟨fr, fun _ h => .inl h, rfl, N⟩
theorem Go.then {n : Nat} {c c1 c2 : Re} {H H1 H2 : Hp} {S1 S2 : NS} (a : Go n c H c1 H1 S1) (b : Go n c1 H1 c2 H2 S2) : Go n c H c2 H2 S2 := by
  refine ⟨fun x o h z => b.fr x o (a.fr x o h z) fun q => ?_, fun x h => ?_, ?_, b.net⟩
  · rcases a.sub x q with q | q
    · exact z q
    · rw [h] at q; cases q
  · by_cases z : c.Fp n x
    · exact .inl z
    · refine .inr ?_
      rcases b.sub x h with q | q
      · exact (a.sub x q).resolve_left z
      · cases e : H x with
        | none => rfl
        | some o => rw [a.fr x o e z] at q; cases q
  · have e1 := a.eq
    have e2 := b.eq
    rw [e1] at e2
    exact e2
theorem Go.ahead {n : Nat} {c c' : Re} {H H1 H' : Hp} {S' : NS} (e : Ex H H1) (a : Go n c H1 c' H' S') : Go n c H c' H' S' :=
  ⟨fun x o h z => a.fr x o (e _ _ h) z, fun x h => (a.sub x h).imp id (fresh_back e), a.eq, a.net⟩
theorem Go.netW {W : Wd} {Hs H H' : Hp} {st : Addr} {c c' : Re} {fo ia : Addr} {s : Sh} {ins : List Int} {S S' : NS} (h : NetW W Hs H st c fo ia s ins S) (g : Go ins.length c H c' H' S') : NetW W Hs H' st c' fo ia s ins S' := by
  refine ⟨h.exf g.fr fun _ z => z, ?_, fun a z => ?_, g.net⟩
  · rw [g.eq]
    exact ⟨h.st.st, h.st.f, h.st.i, h.st.ok, h.st.n3, h.st.n5, h.st.io⟩
  · rcases g.sub a z with q | q
    · exact h.free a q
    · exact fresh_back h.ex q
def sp_go (W : Wd) : GS := fun vs H Q => ∃ (Hs : Hp) (st : Addr) (c : Re) (fo ia : Addr) (s : Sh) (ins : List Int) (S : NS) (me : Nat), vs = [.ref st, .int me] ∧ NetW W Hs H st c fo ia s ins S ∧ InvS s ins.length ins S ∧ me < ins.length ∧ S.done me < s.rounds ∧ (lacksS S ins.length me).length ≤ 1 ∧ S.t < 80000 ∧ S.bag.length ≤ 80000 ∧
  ∀ H' c', Go ins.length c H c' H' { goS s S ins.length me with t := S.t + 1 } → Q .non H'
theorem heard_val {H : Hp} {n : Nat} {c : Re} {S : NS} {me o : Nat} {kvs : List (List Key × V)} (hk : KeptOk H S me kvs) (ho : o ≠ me) : IsD H ((valV kvs (k2 (S.done me) o)).getD .non) (heardS S me o) := by
  unfold heardS
  rw [if_neg ho]
  cases e : valV kvs (k2 (S.done me) o) with
  | none =>
    rw [if_neg (by rw [hk.none _ _ (Nat.le_refl _) e]; decide)]
    exact .non
  | some v =>
    obtain ⟨h1, h2⟩ := hk.some _ _ _ (Nat.le_refl _) e
    rw [if_pos h1]
    exact h2
abbrev N_go : List Str := ["state", "me", "here", "kept", "heard", "other", "absent", "memory", "key"]
theorem sc_go : FnScope N_go ["state", "me"] (defScope s_go) := ⟨rfl, rfl, rfl, by decide +kernel, rfl, by decide +kernel, by decide +kernel⟩
theorem C_go {W : Wd} (T : TopW W) : Cal W "go" 3 (sp_go W) := by
  have C_done_by := C_done_by T
  have C_has_rounds := C_has_rounds T
  have C_kept_step := C_kept_step T
  have C_lacking := C_lacking T
  have C_many_of := C_many_of T
  have C_write := C_write T
  refine cal_mk T (d := d_go) (ps := ["state", "me"]) 32 30 rfl rfl rfl rfl rfl fun f fd F => ⟨fng_of F sc_go (fun vs H Q h => ?_) (fun cdv A outer s H vs Q hr hg h => ?_), F.bindsN fun _ _ _ _ _ _ us hl => match us, hl with | [_, _], _ => rfl⟩
  · obtain ⟨Hs, st, c, fo, ia, s, ins, S, me, h0, NW, I, hm, hrd, hlk, ht, hbz, q⟩ := h
    first | rfl | (subst h0; rfl)
  · have hu := hu_of hr
    have nd := sc_go.nd
    obtain ⟨Hs, st, c, fo, ia, s, ins, S, me, h0, NW, I, hm, hrd, hlk, ht, hbz, q⟩ := h
    try subst h0
    refine ⟨_, (pss_cons (ps_asg (pe_tup (pa_cons (pe_cal C_done_by rfl hr (by decide) hg rfl (pa_cons (pv 0) (pa_cons (pv 1) pa_nil))) (pa_cons (pe_ixlk (K := W.K) rfl (pe_fldk (K := W.K) rfl (pv 0) rfl) (pv 1) (fun _ _ => rfl)) pa_nil))) (pg_tupk (K := W.K) (n := 2) rfl rfl (pgs_cons (pg_name (i := 2) nd rfl (Or.inr rfl)) (pgs_cons (pg_name (i := 3) nd rfl (Or.inr rfl)) pgs_nil)) rfl)) (pss_cons (ps_set (i := 4) nd rfl (Or.inl rfl) (pe_lst pa_nil)) (pss_cons (ps_for PassesOwn.never rfl (pi_range1 rfl T.free_range (pa_cons (pe_cal C_many_of rfl hr (by decide) hg rfl (pa_cons (pv 0) pa_nil)) pa_nil)) (pg_name (i := 5) nd rfl (Or.inl rfl)) (pss_one (ps_expr (pe_bm PySem.F.plainAttrs_list PySem.F.slot_list_append PySem.F.type_list_append mt_append (pv 4) (pa_cons (pe_ifExp (pt_cmpR op_eq (pv 5) (pv 1) (nomark _)) (pe_ixlk (K := W.K) rfl (pe_ixlk (K := W.K) rfl (pe_fldk (K := W.K) rfl (pv 0) rfl) (pv 1) (fun _ _ => rfl)) (pv 2) (fun _ _ => rfl)) (pe_dget1 hu (pv 3) (pe_tup (pa_cons (pv 2) (pa_cons (pv 5) pa_nil))) ⟨rfl, rfl, rfl, rfl⟩)) pa_nil))))) (pss_cons (ps_set (i := 6) nd rfl (Or.inl rfl) (pe_cal C_lacking rfl hr (by decide) hg rfl (pa_cons (pv 0) (pa_cons (pv 1) pa_nil)))) (pss_cons (ps_set (i := 7) nd rfl (Or.inl rfl) (pe_fnk (K := W.K) rfl (pe_fldk (K := W.K) rfl (pv 0) rfl) C_kept_step rfl hr (by decide) hg (pa_cons (pv 1) (pa_cons (pv 2) (pa_cons (pe_callTy (cr_tupk (K := W.K) rfl) rfl T.free_tuple boot_tuple (pa_cons (pv 4) pa_nil)) pa_nil))))) (pss_cons (ps_expr (pe_bm PySem.F.plainAttrs_list PySem.F.slot_list_append PySem.F.type_list_append mt_append (pe_ixlk (K := W.K) rfl (pe_fldk (K := W.K) rfl (pv 0) rfl) (pv 1) (fun _ _ => rfl)) (pa_cons (pv 7) pa_nil))) (pss_cons (ps_expr (pe_bm PySem.F.plainAttrs_list PySem.F.slot_list_append PySem.F.type_list_append mt_append (pe_ixlk (K := W.K) rfl (pe_fldk (K := W.K) rfl (pv 0) rfl) (pv 1) (fun _ _ => rfl)) (pa_cons (pe_ifExp (pt_cmpR op_gt (pe_callB (cr_lenk (K := W.K) rfl) rfl T.free_len boot_len (pa_cons (pv 6) pa_nil)) pe_int (nomark _)) (pe_ixlk (K := W.K) rfl (pv 6) pe_int (fun _ _ => rfl)) pe_non) pa_nil))) (pss_cons (ps_asg (pe_lock (KnD.pe_dcT (own := [("key", 8)]) hu rfl nd (pi_keys (pv 3)) (blkOk_by (own := [("key", 8)]) (N := N_go) (sc := defScope s_go) (by decide +kernel)) (fun _ _ _ _ _ => (pg_name (i := 8) nd rfl (Or.inl rfl))) (fun _ _ _ _ _ => (pts_one (pt_cmpR op_gt (pe_ixtk (K := W.K) rfl (pv 8) pe_int (fun _ _ => rfl)) (pv 2) (nomark _)))) (fun _ _ _ _ _ => (pv 8)) (fun _ _ _ _ _ => (pe_dget hu (pv 3) (pv 8) (fun _ _ => rfl))))) (pg_sub (pe_fldk (K := W.K) rfl (pv 0) rfl) (pv 1) set_list)) (pss_one (ps_if (pt_val (pe_cal C_has_rounds rfl hr (by decide) hg rfl (pa_cons (pv 0) (pa_cons (pv 1) pa_nil)))) (pss_one (ps_expr (pe_cal C_write rfl hr (by decide) hg rfl (pa_cons (pv 0) (pa_cons (pv 1) (pa_cons (pe_op op_add (pv 2) pe_int) pa_nil)))))) pss_nil)))))))))), ?_⟩
    have N := NW.net
    have n5 := NW.st.n5
    have n3 := NW.st.n3
    have dle : S.done me ≤ 12 := by have := NW.st.ok.r; omega
    refine q_asg2 (x := .int (S.done me : Nat)) (y := .ref (c.ke me)) (ep_U (eu_tup (ea_cons (ev_calR (by walk_at "ev") fun H1 e Q k => ⟨st, c, fo, ia, s, ins, S, me, rfl, NW.so.ex e, N.exx e, hm, k⟩) (ea_cons (ev_ixr N.kept hm (ev_st T NW.so (ev_var rfl) T.noat_State_kept st_kept) (ev_var rfl)) ea_nil)) (by simp))) fun H1 e1 => ?_
    refine q_asgL (el_lst ea_nil (by simp)) fun l H2 hl0 e2 hl2 => ?_
    have e12 := e1.trans e2
    have NW2 := NW.exx e12
    -- what is heard
    refine q_forR1 (n := (ins.length : Nat)) (ea_cons (ev_calR (by walk_at "ev") fun H3 e Q k => ⟨st, c, fo, ia, s, ins, rfl, NW2.so.ex e, k⟩) ea_nil) ⟨by omega, by omega⟩
      (fun i σ' H' => Ex H1 H' ∧ ∃ (acc : List V) (y : Option V), H' l = some (.lst acc) ∧ acc.length = i ∧ (∀ (j : Nat) (v : V), acc[j]? = some v → IsD H' v (heardS S me j)) ∧ σ' = [some (.ref st), some (.int me), some (.int (S.done me : Nat)), some (.ref (c.ke me)), some (.ref l), y, none, none, none])
      (fun H3 e3 => ⟨e2.trans e3, [], none, e3 _ _ hl2, rfl, fun j v z => by simp at z, rfl⟩) ?_ ?_
    · rintro i σ' H3 hi ⟨e3, acc, _, hlacc, hlen, hacc, rfl⟩
      have hi : i < ins.length := by omega
      have NW3 := (NW.exx e1).exx e3
      have N3 := NW3.net
      refine s_appP (P := fun v H => IsD H v (heardS S me i)) hlacc (ev_var rfl) ?_ (by omega) fun v H4 e4 pv => ?_
      · refine ep_if (b := decide (i = me)) (et_is (et_test (ev_op (ev_var rfl) (ev_var rfl) (rv_eq rfl))) nat_eq_dec) (fun h => ?_) fun h => ?_
        · have e : i = me := of_decide_eq_true h
          subst e
          obtain ⟨vs, v1, v2, v3⟩ := N3.no i hm
          have hx : vs[S.done i]? = some (vs[S.done i]'(by omega)) := by simp [v2]
          refine ep_is (ev_op (ev_ixr N3.notes hm (ev_st T NW3.so (ev_var rfl) T.noat_State_notes st_notes) (ev_var rfl)) (ev_var rfl) (rv_ixL (sq_of v1) (atI_nat hx))) fun H' e' => ?_
          have : heardS S i i = S.note i (S.done i) := by unfold heardS; rw [if_pos rfl]
          rw [this]
          exact (v3 _ _ hx).ex e'
        · have e : i ≠ me := of_decide_eq_false h
          obtain ⟨kvs, k1, k2', k3⟩ := N3.ke me hm
          exact ep_is (ev_dget1 (ev_var rfl) k1 (eu_tup (by walk_at "ev") (by simp))) fun H' e' => (heard_val (n := ins.length) (c := c) k3 e).ex e'
      · have hl4 := e4 _ _ hlacc
        have frl : FrT H4 (upd H4 l (.lst (acc ++ [v]))) := FrT.new fun xs q => by rw [hl4] at q; cases q
        refine ⟨(e3.trans e4).mut hl0, acc ++ [v], _, upd_same, by simp [hlen], fun j w z => ?_, rfl⟩
        by_cases hj : j < acc.length
        · rw [List.getElem?_append_left hj] at z
          exact (hacc j w z).up ((Ex.frT e4).trans frl)
        · have hj2 : j = acc.length := by
            have := (List.getElem?_eq_some_iff.1 z).1
            simp at this
            omega
          subst hj2
          simp at z
          subst z
          rw [hlen]
          exact pv.up frl
    · rintro σ' H3 ⟨e3, acc, y3, hlacc, hlen, hacc, rfl⟩
      have hlen : acc.length = ins.length := by simpa using hlen
      have NW3 := (NW.exx e1).exx e3
      -- the lacking
      refine q_asgL (xs := (lacksS S ins.length me).map fun o => .int (o : Nat)) (fun H4 e4 Q k => ⟨_, rfl, _, rfl, st, c, fo, ia, s, ins, S, me, rfl, NW3.so.ex e4, NW3.net.exx e4, hm, k⟩) fun lk H4 hlk0 e4 hlk4 => ?_
      have NW4 := NW3.exx e4
      obtain ⟨dx, f1, f2, f3, cc, sh, g1, l1, l2, l3, hc, hs⟩ := NW4.so.f
      -- the memory
      refine q_asgP (P := (MP.isD (stepD s ins.length me (S.done me) (S.note me (S.done me)) (heardS S me))).p) (ep_fn (s := s) T (ev_st T NW4.so (ev_var rfl) T.noat_State_folk st_folk) (eap_cons (M := .eq (.int (me : Nat))) (ep_ev (ev_var rfl)) (eap_cons (M := .eq (.int (S.done me : Nat))) (ep_ev (ev_var rfl)) (eap_cons (M := .tupX acc) (ep_U (eu_tupL (ev_var rfl) (sq_of (e4 _ _ hlacc)))) eap_nil)))
        T.noat_Folk_kept_step ⟨dx, cc, sh, _, g1, folk_step, l2, hc, hs, fun z => by rw [z] at hs; exact nomatch hs.symm.trans hc⟩ (fun _ _ _ e p => (MP.isD _).up (Ex.frT e) p) fun sh vs H5 e5 hp H6 fr6 hs6 Q k => ?_) fun mv H5 e5 pmv => ?_
      · obtain ⟨_, _, rfl, rfl, _, _, rfl, rfl, _, _, rfl, ⟨hv, rfl, hw⟩, rfl⟩ := hp
        exact ⟨sh, hv, s, ins.length, me, S.done me, S.note me (S.done me), heardS S me, rfl, hs6, ⟨acc, fr6 _ _ hw, hlen, fun j v z => (hacc j v z).up ((Ex.frT (e4.trans e5)).trans fr6)⟩, n5, I.heard hm, NW.st.ok, k⟩
      have NW5 := NW4.exx e5
      obtain ⟨vs, v1, v2, v3⟩ := NW5.net.no me hm
      -- noted
      refine q_app v1 (ev_ixr NW5.net.notes hm (ev_st T NW5.so (ev_var rfl) T.noat_State_notes st_notes) (ev_var rfl)) (ev_var rfl) (by omega) fun H6 e6 => ?_
      have NW6 := NW5.exx e6
      have v1' := e6 _ _ v1
      obtain ⟨ρ, R⟩ := NW.net.ro
      generalize hH7 : upd H6 (c.no me) (.lst (vs ++ [mv])) = H7
      have k7 : ∀ a o, H6 a = some o → a ≠ c.no me → H7 a = some o := fun a o h z => by rw [← hH7, upd_ne z]; exact h
      have hs7 : Ex Hs H7 := fun a o h => k7 a o (NW6.ex a o h) fun z => by
        rw [NW.free a (.inr (.inr (.inr (.inr (.inr ⟨me, hm, .inl z⟩)))))] at h
        cases h
      have so7 := NW.st.ex hs7
      have nlk : ∀ (p : Addr) o, H6 p = some (.lst o) → H p = none → p ≠ c.no me := fun p o h h2 z => by
        rw [z] at h2
        exact NW.net.full _ (.inr (.inr (.inr (.inr (.inr ⟨me, hm, .inl rfl⟩))))) h2
      have lk7 : H7 lk = some (.lst ((lacksS S ins.length me).map fun o => .int (o : Nat))) := k7 _ _ ((e5.trans e6) _ _ hlk4) (nlk _ _ ((e5.trans e6) _ _ hlk4) (fresh_back (e1.trans e3) hlk0))
      have mi7 := k7 _ _ (NW6.net.mi me hm) (ne_ro (R.mi me hm) (R.no me hm) (by omega))
      have mis7 := k7 _ _ NW6.net.missed (ne_ro R.missed (R.no me hm) (by omega))
      -- missed
      have hmiss : ∀ (a : TE), a = tIf (tTest (tOp (rI0 fun i j => .bl (decide (j < i))) (tCB (rLenS W.K) (tCons (tVar 6) tNil)) (tC (.int 0)))) (tOp (rIxL W.K) (tVar 6) (tC (.int 0))) (tC .non) → Ev a [some (.ref st), some (.int me), some (.int (S.done me : Nat)), some (.ref (c.ke me)), some (.ref l), y3, some (.ref lk), some mv, none] H7 (oV (lacksS S ins.length me).head?) := fun a ha => by
        subst ha
        cases hL : lacksS S ins.length me with
        | nil =>
          rw [hL] at lk7
          exact ev_if (b := false) (et_test (ev_op (ev_len (ev_var rfl) (sq_of lk7)) ev_c rv_I0)) (fun h => by cases h) fun _ => ev_c
        | cons o r =>
          rw [hL] at lk7
          refine ev_if (b := true) (et_test (ev_is (ev_op (ev_len (ev_var rfl) (sq_of lk7)) ev_c rv_I0) (congrArg V.bl (decide_eq_true (by simp))))) (fun _ => ?_) fun h => by cases h
          exact ev_op (ev_var rfl) ev_c (rv_ixL (sq_of lk7) (atI_nat (j := 0) rfl))
      refine q_app mi7 (ev_ixr mis7 hm (ev_st T so7 (ev_var rfl) T.noat_State_missed st_missed) (ev_var rfl)) (hmiss _ rfl) (by rw [List.length_map]; have : (S.miss me).length = S.done me := rfl; omega) fun H8 e8 => ?_
      generalize hH9 : upd H8 (c.mi me) (.lst ((S.miss me).map oV ++ [oV (lacksS S ins.length me).head?])) = H9
      have no9 : H9 (c.no me) = some (.lst (vs ++ [mv])) := by
        rw [← hH9, upd_ne (ne_ro (R.no me hm) (R.mi me hm) (by omega))]
        exact e8 _ _ (by rw [← hH7, upd_same])
      have f9 : Fr (fun a => a = c.no me ∨ a = c.mi me) H6 H9 := fun a o h z => by
        rw [← hH9, upd_ne fun w => z (.inr w)]
        exact e8 _ _ (k7 a o h fun w => z (.inl w))
      have fr9 : FrT H6 H9 := f9.frT fun a xs ha z => NW6.net.noT a xs ha (.inr (.inr (.inr (.inr (.inr ⟨me, hm, z.elim .inl fun q => .inr (.inl q)⟩)))))
      have pmv9 : IsD H9 mv (stepD s ins.length me (S.done me) (S.note me (S.done me)) (heardS S me)) := ((show IsD H5 mv _ from pmv).ex e6).up fr9
      have N9 : NetAt H9 ins.length c (goneS s S ins.length me) := NW6.net.noted hm f9 v1' no9 pmv9 (by rw [← hH9, upd_same, List.map_append]; rfl) (fun i r j h => (I.k i r j h).2.2) fun l hl => (I.bag l hl).2.2.2.1
      have g9 : Go ins.length c H c H9 (goneS s S ins.length me) := Go.ahead ((e1.trans e3).trans ((e4.trans e5).trans e6)) (Go.same (f9.mono fun a z => .inr (.inr (.inr (.inr (.inr ⟨me, hm, z.elim .inl fun q => .inr (.inl q)⟩))))) N9)
      have NW9 := g9.netW NW
      obtain ⟨kvs, k1, k2', k3⟩ := N9.ke me hm
      have k2' : kvs.length ≤ S.t := k2'
      -- what is kept
      refine q_of (s_dc (K := W.K) (σ := [some (.ref st), some (.int me), some (.int (S.done me : Nat)), some (.ref (c.ke me)), some (.ref l), y3, some (.ref lk), some mv, none]) (j := 8) (dv := 3) (hv := 2) (here := S.done me) k1 (by omega) k3.keys rfl (fun _ => rfl) (fun _ => rfl) (fun _ => rfl) (fun _ => rfl) fun Dd H10 ks hD0 e10 hDd w1 w2 w3 w4 => ?_)
      have NW10 := NW9.exx e10
      refine g_set NW10.net.kept (ev_st T NW10.so (ev_var rfl) T.noat_State_kept st_kept) (ev_var rfl) (by simpa using hm) fun H11 e11 => ?_
      rw [map_set]
      generalize hH12 : upd H11 c.kept (.lst ((List.range ins.length).map (setN (fun i => V.ref (c.ke i)) me (V.ref Dd)))) = H12
      have f12 : Fr (fun a => a = c.kept) H9 H12 := fun a o h z => by
        rw [← hH12, upd_ne z]
        exact (e10.trans e11) _ _ h
      have nDk : Dd ≠ c.kept := fun z => N9.full _ (.inr (.inr (.inr (.inr (.inl rfl))))) (by rw [← z]; exact hD0)
      have hD12 : H12 Dd = some (.dT ks) := by
        rw [← hH12, upd_ne nDk]
        exact e11 _ _ hDd
      have hk12 : H12 c.kept = some (.lst ((List.range ins.length).map fun i => .ref (setN c.ke me Dd i))) := by
        rw [← hH12, upd_same]
        congr 2
        refine List.map_congr_left fun i _ => ?_
        unfold setN
        split <;> rfl
      have fr12 : FrT H9 H12 := f12.frT fun a xs ha z => N9.noT a xs ha (.inr (.inr (.inr (.inr (.inl z)))))
      have dn : (goneS s S ins.length me).done me = S.done me + 1 := gone_done_me
      have ko : KeptOk H12 { goneS s S ins.length me with K := (goneS s S ins.length me).K } me ks := by
        refine ⟨w2, fun r j hr hv => ?_, fun r j v hr hv => ?_⟩
        · have hr : (goneS s S ins.length me).done me ≤ r := hr
          cases z : valV kvs (k2 r j) with
          | none => exact k3.none r j hr z
          | some u =>
            rw [w4 r j u (by omega) z] at hv
            cases hv
        · have hr : (goneS s S ins.length me).done me ≤ r := hr
          obtain ⟨a1, a2⟩ := k3.some r j v hr (w3 _ _ hv)
          exact ⟨a1, a2.up fr12⟩
      have N12 := N9.keptNew (T := S.t + 1) (K := (goneS s S ins.length me).K) hm hD0 f12 hk12 hD12 (by omega) (Nat.le_succ _) ko fun _ _ => rfl
      have g12 : Go ins.length c H9 { c with ke := setN c.ke me Dd } H12 { goneS s S ins.length me with t := S.t + 1 } := by
        refine ⟨f12.mono fun a z => .inr (.inr (.inr (.inr (.inl z)))), fun a h => ?_, rfl, N12⟩
        rcases h with h | h | h | h | h | ⟨i, hi, h | h | h⟩
        · exact .inl (.inl h)
        · exact .inl (.inr (.inl h))
        · exact .inl (.inr (.inr (.inl h)))
        · exact .inl (.inr (.inr (.inr (.inl h))))
        · exact .inl (.inr (.inr (.inr (.inr (.inl h)))))
        · exact .inl (.inr (.inr (.inr (.inr (.inr ⟨i, hi, .inl h⟩)))))
        · exact .inl (.inr (.inr (.inr (.inr (.inr ⟨i, hi, .inr (.inl h)⟩)))))
        · have h : a = setN c.ke me Dd i := h
          by_cases z : i = me
          · subst z
            rw [setN_same] at h
            exact .inr (by rw [h]; exact hD0)
          · rw [setN_ne z] at h
            exact .inl (.inr (.inr (.inr (.inr (.inr ⟨i, hi, .inr (.inr h)⟩)))))
      have G := g9.then g12
      have NW12 := G.netW NW
      refine s_when (b := decide ((goneS s S ins.length me).done me < s.rounds)) (et_B (ev_calR (by walk_at "ev") fun H13 e Q k => ⟨st, _, fo, ia, s, ins, _, me, rfl, NW12.so.ex e, NW12.net.exx e, hm, k⟩)) (fun h H13 e13 => ?_) fun h H13 e13 => ?_
      · have hlt := of_decide_eq_true h
        rw [dn] at hlt
        refine s_mut (vs := [.ref st, .int me, .int ((S.done me + 1 : Nat) : Int)]) (ea_cons (ev_var rfl) (ea_cons (ev_var rfl) (ea_cons (ev_is (ev_op (ev_var rfl) ev_c rv_I0) rfl) ea_nil))) fun H14 e14 => ?_
        have NW14 := NW12.exx (e13.trans e14)
        refine ⟨Hs, st, _, fo, ia, s, ins, _, me, S.done me + 1, rfl, NW14, hm, ?_, by show S.bag.length ≤ 90000; omega, fun H15 f15 N15 => ?_⟩
        · show S.done me + 1 ≤ (goneS s S ins.length me).done me
          rw [dn]
          exact Nat.le_refl _
        · have ge : goS s S ins.length me = wroteS (goneS s S ins.length me) ins.length me (S.done me + 1) := by unfold goS; rw [if_pos hlt]
          rw [ge] at q
          exact q H15 _ (G.then (Go.ahead (e13.trans e14) (Go.same (f15.mono fun a z => .inl z) N15)))
      · have hge := of_decide_eq_false h
        rw [dn] at hge
        have ge : goS s S ins.length me = goneS s S ins.length me := by unfold goS; rw [if_neg hge]
        rw [ge] at q
        exact q H13 _ (G.then (Go.ahead e13 (Go.same (Fr.ex (Ex.refl _)) (N12.exx e13))))
end Kn

set_option Elab.async false
set_option linter.all false
set_option maxRecDepth 100000
set_option maxHeartbeats 4000000
/-! the package's nets: events, what is told -/
namespace Kn
open PySem PySem.Spec PyProof.Rows L2 Evl
local macro_rules | `(tactic| walk_at "ev") => `(tactic| first
  | ((with_reducible apply ev_var); exact rfl)
  | with_reducible exact ev_c
  | with_reducible exact ea_nil
  | ((with_reducible apply ea_cons) <;> walk_at "ev")
  | ((with_reducible apply ev_int); walk_at "ev")
  | ((with_reducible apply ev_op) <;> walk_at "ev")
  | ((with_reducible apply ev_un) <;> walk_at "ev")
  | with_reducible exact rv_I0
  | with_reducible exact rv_isN
  | ((with_reducible apply rv_eq); exact rfl)
  | ((with_reducible apply rv_ne); exact rfl)
  | with_reducible exact ru_neg
  | ((with_reducible apply rv_I); first | exact Or.inl (by decide) | decide | assumption | skip)
  | ((with_reducible apply rv_ixL) <;> first | assumption | exact rfl | skip)
  | ((with_reducible apply rv_ixT) <;> first | assumption | exact rfl | skip)
  | ((with_reducible apply ev_fld) <;> first | walk_at "ev" | assumption | exact rfl | skip)
  | ((with_reducible apply ev_len) <;> first | walk_at "ev" | assumption | skip)
  | ((with_reducible apply ev_lenT) <;> first | walk_at "ev" | assumption | skip)
  | exact rv_eq rfl
  | exact rv_ne rfl
  | assumption
  | skip)
theorem againUp_done {S : NS} {n me r : Nat} (i : Nat) : (againUp S n me r).done i = S.done i := by
  show ((againUp S n me r).miss i).length = _
  rw [(againUp_same S n me r).2.1]
  rfl
def sp_write_again (W : Wd) : GS := fun vs H Q => ∃ (Hs : Hp) (st : Addr) (c : Re) (fo ia : Addr) (s : Sh) (ins : List Int) (S : NS) (me : Nat), vs = [.ref st, .int me] ∧ NetW W Hs H st c fo ia s ins S ∧ me < ins.length ∧ S.bag.length ≤ 80000 ∧ S.done me ≤ 12 ∧
  ∀ H', Fr (c.Fp ins.length) H H' → NetAt H' ins.length c (againS s S ins.length me) → Q .non H'
abbrev N_write_again : List Str := ["state", "me", "round_number"]
theorem sc_write_again : FnScope N_write_again ["state", "me"] (defScope s_write_again) := ⟨rfl, rfl, rfl, by decide +kernel, rfl, by decide +kernel, by decide +kernel⟩
theorem C_write_again {W : Wd} (T : TopW W) : Cal W "write_again" 3 (sp_write_again W) := by
  have C_write := C_write T
  refine cal_mk T (d := d_write_again) (ps := ["state", "me"]) 33 31 rfl rfl rfl rfl rfl fun f fd F => ⟨fng_of F sc_write_again (fun vs H Q h => ?_) (fun cdv A outer s H vs Q hr hg h => ?_), F.bindsN fun _ _ _ _ _ _ us hl => match us, hl with | [_, _], _ => rfl⟩
  · obtain ⟨Hs, st, c, fo, ia, s, ins, S, me, h0, NW, hm, hbz, hdn, q⟩ := h
    first | rfl | (subst h0; rfl)
  · have hu := hu_of hr
    have nd := sc_write_again.nd
    obtain ⟨Hs, st, c, fo, ia, s, ins, S, me, h0, NW, hm, hbz, hdn, q⟩ := h
    try subst h0
    refine ⟨_, (pss_one (ps_for PassesOwn.never rfl (pi_range1 rfl T.free_range (pa_cons (pe_callB (cr_min2 rfl) rfl T.free_min boot_min (pa_cons (pe_callB (cr_lenk (K := W.K) rfl) rfl T.free_len boot_len (pa_cons (pe_ixlk (K := W.K) rfl (pe_fldk (K := W.K) rfl (pv 0) rfl) (pv 1) (fun _ _ => rfl)) pa_nil)) (pa_cons (pe_fldk (K := W.K) rfl (pe_fldk (K := W.K) rfl (pv 0) rfl) rfl) pa_nil))) pa_nil)) (pg_name (i := 2) nd rfl (Or.inl rfl)) (pss_one (ps_expr (pe_cal C_write rfl hr (by decide) hg rfl (pa_cons (pv 0) (pa_cons (pv 1) (pa_cons (pv 2) pa_nil)))))))), ?_⟩
    have N := NW.net
    have n5 := NW.st.n5
    obtain ⟨dx, f1, f2, f3, cc, sh, g1, _⟩ := NW.so.f
    obtain ⟨vs, v1, v2, v3⟩ := N.no me hm
    have hr12 := NW.st.ok.r
    refine s_forR1 (n := ((min (S.done me + 1) s.rounds : Nat) : Int)) (ea_cons (ev_is (ev_min2 (i := (vs.length : Nat)) (j := (s.rounds : Nat)) (ea_cons (ev_len (ev_ixr N.notes hm (ev_st T NW.so (ev_var rfl) T.noat_State_notes st_notes) (ev_var rfl)) (sq_of v1)) (ea_cons (ev_fld (ev_st T NW.so (ev_var rfl) T.noat_State_folk st_folk) g1 T.cls_Folk T.noat_Folk_rounds folk_rounds) ea_nil))) ?_) ea_nil) ⟨by omega, by omega⟩
      (fun i σ' H' => Fr (c.Fp ins.length) H H' ∧ NetAt H' ins.length c (againUp S ins.length me i) ∧ ∃ y : Option V, σ' = [some (.ref st), some (.int me), y]) (fun H2 e2 => ⟨Fr.ex e2, N.exx e2, none, rfl⟩) ?_ ?_
    · refine congrArg V.int ?_
      rw [v2]
      split <;> omega
    · rintro i σ' H2 hi ⟨f2, N2, _, rfl⟩
      have NW2 : NetW W Hs H2 st c fo ia s ins (againUp S ins.length me i) := ⟨NW.exf f2 fun _ z => z, NW.st, NW.free, N2⟩
      refine s_mut (vs := [.ref st, .int me, .int (i : Nat)]) (by walk_at "ev") fun H3 e3 => ⟨Hs, st, c, fo, ia, s, ins, _, me, i, rfl, NW2.exx e3, hm, ?_, ?_, fun H4 f4 N4 => ⟨(f2.trans (Fr.ex e3)).trans (f4.mono fun a z => .inl z), N4, _, rfl⟩⟩
      · rw [againUp_done]
        omega
      · have := againUp_len (S := S) n5 me i
        omega
    · rintro σ' H2 ⟨f2, N2, _⟩
      refine q H2 f2 ?_
      have e : (((min (S.done me + 1) s.rounds : Nat) : Int)).toNat = min (S.done me + 1) s.rounds := by omega
      rw [e] at N2
      exact N2
/-- an event as a value -/
def EvtAt (H : Hp) (ev : Addr) (w : Wo) (k : Nat) : Prop := H ev = some (.tup [.str w.str, .int k])
theorem wo_dec (w v : Wo) : decide (V.str w.str = V.str v.str) = decide (w = v) := by cases w <;> cases v <;> decide +kernel
theorem wo_l (w : Wo) : inV (.str w.str) [V.str "come", V.str "double"] = decide (w = .come ∨ w = .double) := by cases w <;> decide +kernel
theorem wo_m (w : Wo) : inV (.str w.str) [V.str "go", V.str "fall", V.str "rise", V.str "again"] = !decide (w = .come ∨ w = .double) := by cases w <;> decide +kernel
theorem kit_ss : kitB "str" "str" = some true := by decide +kernel
theorem ev_rng {σ : L2.St} {H : Hp} {tb te : TE} {k m : Nat} (hb : Ev tb σ H (.int (k : Nat))) (hc : Ev te σ H (.int (m : Nat))) (h : k < m) : Ev (tChain (rI0 fun i j => V.bl (decide (i ≤ j))) (rI0 fun i j => V.bl (decide (i < j))) (tC (V.int 0)) tb te) σ H (.bl true) := by
  have h1 : decide ((0 : Int) ≤ (k : Int)) = true := decide_eq_true (by omega)
  have h2 : decide ((k : Int) < (m : Int)) = true := decide_eq_true (by omega)
  exact ev_chain (b := true) (w := .bl true) ev_c hb (by rw [← h1]; exact rv_I0) (fun _ => ⟨hc, by rw [← h2]; exact rv_I0⟩) fun h => by cases h
theorem can_letter {s : Sh} {S : NS} {n k : Nat} {w : Wo} (h : canS s S n w (k : Int) = true) (hw : w = .come ∨ w = .double) : k < S.bag.length ∧ (w = .come → upOf S k = true) := by
  rcases hw with rfl | rfl
  · simp [canS] at h
    exact ⟨by omega, fun _ => h.2⟩
  · simp [canS] at h
    exact ⟨by omega, fun z => nomatch z⟩
theorem can_mach {s : Sh} {S : NS} {n k : Nat} {w : Wo} (h : canS s S n w (k : Int) = true) (hw : ¬ (w = .come ∨ w = .double)) : k < n ∧ S.up k = !decide (w = .rise) ∧ (w = .go → S.done k < s.rounds ∧ (lacksS S n k).length ≤ 1) := by
  cases w with
  | come => exact absurd (.inl rfl) hw
  | double => exact absurd (.inr rfl) hw
  | go =>
    simp [canS] at h
    exact ⟨by omega, by simp [h.1.2], fun _ => h.2⟩
  | fall =>
    simp [canS] at h
    exact ⟨by omega, by simp [h.2], fun z => nomatch z⟩
  | rise =>
    simp [canS] at h
    exact ⟨by omega, by simp [h.2], fun z => nomatch z⟩
  | again =>
    simp [canS] at h
    exact ⟨by omega, by simp [h.2], fun z => nomatch z⟩
def sp_can_be (W : Wd) : GS := fun vs H Q => ∃ (st ev : Addr) (c : Re) (fo ia : Addr) (s : Sh) (ins : List Int) (S : NS) (w : Wo) (k : Nat), vs = [.ref st, .ref ev] ∧ StOk W H st c fo ia s ins ∧ NetAt H ins.length c S ∧ EvtAt H ev w k ∧ canS s S ins.length w (k : Int) = true ∧ (∀ l ∈ S.bag, l.1 < ins.length) ∧ Ret (MP.eq (.bl true)).p H Q
abbrev N_can_be : List Str := ["state", "thing", "word", "number"]
theorem sc_can_be : FnScope N_can_be ["state", "thing"] (defScope s_can_be) := ⟨rfl, rfl, rfl, by decide +kernel, rfl, by decide +kernel, by decide +kernel⟩
theorem C_can_be {W : Wd} (T : TopW W) : Cal W "can_be" 4 (sp_can_be W) := by
  have C_can_go := C_can_go T
  have C_is_integer := C_is_integer T
  have C_is_pair := C_is_pair T
  have C_many_of := C_many_of T
  refine cal_mk T (d := d_can_be) (ps := ["state", "thing"]) 30 28 rfl rfl rfl rfl rfl fun f fd F => ⟨fng_of F sc_can_be (fun vs H Q h => ?_) (fun cdv A outer s H vs Q hr hg h => ?_), F.bindsN fun _ _ _ _ _ _ us hl => match us, hl with | [_, _], _ => rfl⟩
  · obtain ⟨st, ev, c, fo, ia, s, ins, S, w, k, h0, so, N, he, hcan, hbl, q⟩ := h
    first | rfl | (subst h0; rfl)
  · have hu := hu_of hr
    have nd := sc_can_be.nd
    obtain ⟨st, ev, c, fo, ia, s, ins, S, w, k, h0, so, N, he, hcan, hbl, q⟩ := h
    try subst h0
    refine ⟨_, (pss_cons (ps_if (PW.pt (pw_or (pt_not (pt_val (pe_cal C_is_pair rfl hr (by decide) hg rfl (pa_cons (pv 1) pa_nil)))) (pw_or (pt_not (pt_val (pe_callB (cr_isk (K := W.K) rfl) rfl T.free_isinstance boot_isinstance (pa_cons (pe_ixtk (K := W.K) rfl (pv 1) pe_int (fun _ _ => rfl)) (pa_cons (pe_ty (T.free_str) rfl rfl boot_str) pa_nil))))) (pw_or1 (pt_not (pt_val (pe_cal C_is_integer rfl hr (by decide) hg rfl (pa_cons (pe_ixtk (K := W.K) rfl (pv 1) pe_int (fun _ _ => rfl)) pa_nil)))))))) (pss_one (ps_ret pe_bl)) pss_nil) (pss_cons (ps_asg (pv 1) (pg_tupk (K := W.K) (n := 2) rfl rfl (pgs_cons (pg_name (i := 2) nd rfl (Or.inl rfl)) (pgs_cons (pg_name (i := 3) nd rfl (Or.inl rfl)) pgs_nil)) rfl)) (pss_cons (ps_if (pt_cmpR (op_inSk (K := W.K) rfl) (pv 2) (pe_gtup (T.gtup_WORDS_OF_LETTERS) rfl rfl) rfl) (pss_cons (ps_if (pt_not (pt_chain op_le op_lt pe_int (pv 3) (pe_callB (cr_lenk (K := W.K) rfl) rfl T.free_len boot_len (pa_cons (pe_fldk (K := W.K) rfl (pv 0) rfl) pa_nil)))) (pss_one (ps_ret pe_bl)) pss_nil) (pss_one (ps_ret (pe_or (pe_cmpR op_eq (pv 2) pe_str (nomark _)) (pe_one (pe_ixlk (K := W.K) rfl (pe_fldk (K := W.K) rfl (pv 0) rfl) (pe_ixtk (K := W.K) rfl (pe_ixlk (K := W.K) rfl (pe_fldk (K := W.K) rfl (pv 0) rfl) (pv 3) (fun _ _ => rfl)) pe_int (fun _ _ => rfl)) (fun _ _ => rfl))))))) pss_nil) (pss_cons (ps_if (PW.pt (pw_or (pt_cmpR (op_niSk (K := W.K) rfl) (pv 2) (pe_gtup (T.gtup_WORDS_OF_MACHINES) rfl rfl) rfl) (pw_or1 (pt_not (pt_chain op_le op_lt pe_int (pv 3) (pe_cal C_many_of rfl hr (by decide) hg rfl (pa_cons (pv 0) pa_nil))))))) (pss_one (ps_ret pe_bl)) pss_nil) (pss_cons (ps_if (pt_cmpR op_eq (pv 2) pe_str (nomark _)) (pss_one (ps_ret (pe_not (pe_ixlk (K := W.K) rfl (pe_fldk (K := W.K) rfl (pv 0) rfl) (pv 3) (fun _ _ => rfl))))) pss_nil) (pss_one (ps_ret (pe_and (pe_ixlk (K := W.K) rfl (pe_fldk (K := W.K) rfl (pv 0) rfl) (pv 3) (fun _ _ => rfl)) (pe_one (pe_or (pe_cmpR op_ne (pv 2) pe_str (nomark _)) (pe_one (pe_cal C_can_go rfl hr (by decide) hg rfl (pa_cons (pv 0) (pa_cons (pv 3) pa_nil)))))))))))))), ?_⟩
    refine q_when (b := false) (et_is (et_or (a := false) (b := false) (et_is (et_not (et_B (ev_calR (v := .bl true) (by walk_at "ev") fun H1 e Q kq => ⟨ev, _, _, rfl, e _ _ he, kq⟩))) rfl) fun _ => et_or (a := false) (b := false) (et_is (et_not (et_B (ev_isi (ev_op (ev_var rfl) ev_c (rv_ixT (st_of he) rfl)) (fun H' e => .base (.str _)) kit_ss))) rfl) fun _ => et_is (et_not (et_B (ev_calR (v := .bl (true && !false)) (ea_cons (ev_op (ev_var rfl) ev_c (rv_ixT (st_of he) rfl)) ea_nil) fun H1 e Q kq => ⟨.int k, "int", true, false, rfl, fun H' _ => .base (.int k), kit_ii, kit_ib, kq⟩))) rfl) rfl) (fun h => by cases h) fun _ H1 e1 => ?_
    refine q_asg2 (x := .str w.str) (y := .int k) (ep_is (ev_var rfl) fun H' e => ⟨ev, rfl, (e1.trans e) _ _ he⟩) fun H2 e2 => ?_
    have e12 := e1.trans e2
    have so2 := so.ex e12
    have N2 := N.exx e12
    by_cases hw : w = .come ∨ w = .double
    · obtain ⟨hk, hc⟩ := can_letter hcan hw
      refine q_when (b := true) (et_is (et_test (ev_op (ev_var rfl) ev_c (rv_isT (T.tup_l H2) rfl rfl))) (by rw [wo_l]; exact decide_eq_true hw)) (fun _ H3 e3 => ?_) fun h => by cases h
      have so3 := so2.ex e3
      have N3 := N2.exx e3
      obtain ⟨ls, b1, b2, b3⟩ := N3.bag
      refine q_when (b := false) (et_is (et_not (et_test (ev_rng (k := k) (m := ls.length) (ev_var rfl) (ev_len (ev_st T so3 (ev_var rfl) T.noat_State_bag st_bag) (sq_of b1)) (by omega)))) rfl) (fun h => by cases h) fun _ H4 e4 => ?_
      have e04 := (e12.trans e3).trans e4
      refine s_retE (v := .bl true) ?_ fun v H5 e5 p => q v H5 (e04.trans e5) p
      by_cases hd : w = .double
      · exact ev_is (ev_orV (a := true) (b := true) (ev_is (ev_op (ev_var rfl) ev_c (rv_eq rfl)) (congrArg V.bl ((wo_dec w .double).trans (decide_eq_true hd)))) fun h => by cases h) rfl
      · have hco : w = .come := hw.resolve_right hd
        have hS : S.bag[k]? = some S.bag[k] := by simp [hk]
        have kl : k < ls.length := by omega
        have hL : ls[k]? = some ls[k] := by simp [kl]
        obtain ⟨p, m, hp1, hp2, hp3⟩ := b3 k _ _ hL hS
        have hL := hL.trans (congrArg some hp1)
        have hup : S.up S.bag[k].1 = true := by
          have := hc hco
          unfold upOf at this
          rw [hS] at this
          exact this
        have hm := hbl _ (List.getElem_mem hk)
        refine ev_is (ev_orV (a := false) (b := true) (ev_is (ev_op (ev_var rfl) ev_c (rv_eq rfl)) (congrArg V.bl ((wo_dec w .double).trans (decide_eq_false hd)))) fun _ => ?_) rfl
        rw [← hup]
        exact ev_ixm (f := fun i => .bl (S.up i)) (e4 _ _ N3.up) hm (ev_st T (so3.ex e4) (ev_var rfl) T.noat_State_are_up st_up) (ev_op (ev_op (ev_st T (so3.ex e4) (ev_var rfl) T.noat_State_bag st_bag) (ev_var rfl) (rv_ixL (sq_of (e4 _ _ b1)) (atI_nat hL))) ev_c (rv_ixT (st_of (e4 _ _ hp2)) rfl))
    · obtain ⟨hk, hu, hgo⟩ := can_mach hcan hw
      refine q_when (b := false) (et_is (et_test (ev_op (ev_var rfl) ev_c (rv_isT (T.tup_l H2) rfl rfl))) (by rw [wo_l]; exact decide_eq_false hw)) (fun h => by cases h) fun _ H3 e3 => ?_
      have so3 := so2.ex e3
      have N3 := N2.exx e3
      refine q_when (b := false) (et_is (et_or (a := false) (b := false) (et_is (et_test (ev_op (ev_var rfl) ev_c (rv_niT (T.tup_m H3) rfl rfl))) (by rw [wo_m, decide_eq_false hw]; rfl)) fun _ => et_is (et_not (et_test (ev_rng (k := k) (m := ins.length) (ev_var rfl) (ev_calR (by walk_at "ev") fun H4 e Q kq => ⟨st, c, fo, ia, s, ins, rfl, so3.ex e, kq⟩) hk))) rfl) rfl) (fun h => by cases h) fun _ H4 e4 => ?_
      have so4 := so3.ex e4
      have N4 := N3.exx e4
      have e04 := (e12.trans e3).trans e4
      have upv : ∀ {H5 : Hp} {σ : L2.St}, Ex H4 H5 → σ[0]? = some (some (.ref st)) → σ[3]? = some (some (.int (k : Nat))) → Ev (tOp (rIxL W.K) (tFld W.K (tVar 0) "are_up") (tVar 3)) σ H5 (.bl (!decide (w = .rise))) := fun e5 a b => by
        rw [← hu]
        exact ev_ixm (f := fun i => .bl (S.up i)) (e5 _ _ N4.up) hk (ev_st T (so4.ex e5) (ev_var a) T.noat_State_are_up st_up) (ev_var b)
      by_cases hri : w = .rise
      · refine q_when (b := true) (et_is (et_test (ev_op (ev_var rfl) ev_c (rv_eq rfl))) ((wo_dec w .rise).trans (decide_eq_true hri))) (fun _ H5 e5 => ?_) fun h => by cases h
        refine s_retE (v := .bl true) (ev_is (ev_notV (upv e5 rfl rfl)) (by rw [decide_eq_true hri]; rfl)) fun v H6 e6 p => q v H6 ((e04.trans e5).trans e6) p
      · refine q_when (b := false) (et_is (et_test (ev_op (ev_var rfl) ev_c (rv_eq rfl))) ((wo_dec w .rise).trans (decide_eq_false hri))) (fun h => by cases h) fun _ H5 e5 => ?_
        refine s_retE (v := .bl true) (ev_is (ev_andV (a := true) (b := true) (ev_is (upv e5 rfl rfl) (by rw [decide_eq_false hri]; rfl)) fun _ => ?_) rfl) fun v H6 e6 p => q v H6 ((e04.trans e5).trans e6) p
        by_cases hg2 : w = .go
        · obtain ⟨g1, g2⟩ := hgo hg2
          refine ev_is (ev_orV (a := false) (b := true) (ev_is (ev_op (ev_var rfl) ev_c (rv_ne rfl)) (congrArg V.bl (show (!decide (V.str w.str = V.str Wo.go.str)) = false by rw [wo_dec, decide_eq_true hg2]; rfl))) fun _ => ev_is (ev_calR (by walk_at "ev") fun H6 e Q kq => ⟨st, c, fo, ia, s, ins, S, k, rfl, (so4.ex e5).ex e, (N4.exx e5).exx e, hk, kq⟩) ?_) rfl
          rw [decide_eq_true g1, decide_eq_true g2]
          rfl
        · exact ev_is (ev_orV (a := true) (b := true) (ev_is (ev_op (ev_var rfl) ev_c (rv_ne rfl)) (congrArg V.bl (show (!decide (V.str w.str = V.str Wo.go.str)) = true by rw [wo_dec, decide_eq_false hg2]; rfl))) fun h => by cases h) rfl
def sp_do (W : Wd) : GS := fun vs H Q => ∃ (Hs : Hp) (st ev : Addr) (c : Re) (fo ia : Addr) (s : Sh) (ins : List Int) (S : NS) (w : Wo) (k : Nat), vs = [.ref st, .ref ev] ∧ NetW W Hs H st c fo ia s ins S ∧ InvS s ins.length ins S ∧ EvtAt H ev w k ∧ canS s S ins.length w (k : Int) = true ∧ S.t < 70000 ∧ S.bag.length ≤ 70000 ∧
  ∀ H' c', Go ins.length c H c' H' (doS s S ins.length w k) → Q .non H'
/-- a net whose letters kept by one machine are gone -/
theorem NetAt.fallen {H H1 H2 : Hp} {n : Nat} {c : Re} {S : NS} {k : Nat} {b : Bool} {d : Addr} (N : NetAt H n c S) (hk : k < n) (e1 : Ex H H1) (hd : upd H1 c.up (.lst (((List.range n).map fun i => V.bl (S.up i)).set k (.bl b))) d = none) (e2 : Ex (upd H1 c.up (.lst (((List.range n).map fun i => V.bl (S.up i)).set k (.bl b)))) H2) (hd2 : H2 d = some (.dT [])) :
    Go n c H { c with ke := setN c.ke k d } (upd H2 c.kept (.lst (((List.range n).map fun i => V.ref (c.ke i)).set k (.ref d)))) { fallS S k b with t := S.t + 1 } := by
  have f1 : Fr (fun a => a = c.up) H (upd H1 c.up (.lst (((List.range n).map fun i => V.bl (S.up i)).set k (.bl b)))) := fun a o h z => (upd_ne z).trans (e1 _ _ h)
  have N1 : NetAt (upd H1 c.up (.lst (((List.range n).map fun i => V.bl (S.up i)).set k (.bl b)))) n c { S with up := setN S.up k b } := N.upped f1 (by
    rw [upd_same, map_set]
    congr 2
    refine List.map_congr_left fun i _ => ?_
    unfold setN
    split <;> rfl)
  generalize upd H1 c.up (.lst (((List.range n).map fun i => V.bl (S.up i)).set k (.bl b))) = H1' at f1 N1 hd e2
  have f2 : Fr (fun a => a = c.kept) H1' (upd H2 c.kept (.lst (((List.range n).map fun i => V.ref (c.ke i)).set k (.ref d)))) := fun a o h z => (upd_ne z).trans (e2 _ _ h)
  have ndk : d ≠ c.kept := fun z => N1.full _ (.inr (.inr (.inr (.inr (.inl rfl))))) (by rw [← z]; exact hd)
  have N2 := N1.keptNew (T := S.t + 1) (kvs := []) (K := setN S.K k fun _ _ => false) hk hd f2 (by
    rw [upd_same, map_set]
    congr 2
    refine List.map_congr_left fun i _ => ?_
    unfold setN
    split <;> rfl) ((upd_ne ndk).trans hd2) (Nat.zero_le _) (Nat.le_succ _) ⟨fun _ h => by simp at h, fun r j _ _ => by show setN S.K k _ k r j = false; rw [setN_same], fun r j v _ h => by simp [valV_nil] at h⟩ fun i hi => setN_ne hi
  have hd0 : H d = none := by
    cases z : H d with
    | none => rfl
    | some o =>
      by_cases w : d = c.up
      · exact absurd hd (N1.full d (.inr (.inl w)))
      · rw [f1 _ _ z w] at hd; cases hd
  refine ⟨(f1.mono fun a z => .inr (.inl z)).trans (f2.mono fun a z => .inr (.inr (.inr (.inr (.inl z))))), fun a h => ?_, rfl, N2⟩
  rcases h with h | h | h | h | h | ⟨i, hi, h | h | h⟩
  · exact .inl (.inl h)
  · exact .inl (.inr (.inl h))
  · exact .inl (.inr (.inr (.inl h)))
  · exact .inl (.inr (.inr (.inr (.inl h))))
  · exact .inl (.inr (.inr (.inr (.inr (.inl h)))))
  · exact .inl (.inr (.inr (.inr (.inr (.inr ⟨i, hi, .inl h⟩)))))
  · exact .inl (.inr (.inr (.inr (.inr (.inr ⟨i, hi, .inr (.inl h)⟩)))))
  · have h : a = setN c.ke k d i := h
    by_cases z : i = k
    · subst z
      rw [setN_same] at h
      exact .inr (by rw [h]; exact hd0)
    · rw [setN_ne z] at h
      exact .inl (.inr (.inr (.inr (.inr (.inr ⟨i, hi, .inr (.inr h)⟩)))))
abbrev N_do : List Str := ["state", "event", "word", "number"]
theorem sc_do : FnScope N_do ["state", "event"] (defScope s_do) := ⟨rfl, rfl, rfl, by decide +kernel, rfl, by decide +kernel, by decide +kernel⟩
theorem C_do {W : Wd} (T : TopW W) : Cal W "do" 4 (sp_do W) := by
  have C_come := C_come T
  have C_go := C_go T
  have C_write_again := C_write_again T
  refine cal_mk T (d := d_do) (ps := ["state", "event"]) 34 32 rfl rfl rfl rfl rfl fun f fd F => ⟨fng_of F sc_do (fun vs H Q h => ?_) (fun cdv A outer s H vs Q hr hg h => ?_), F.bindsN fun _ _ _ _ _ _ us hl => match us, hl with | [_, _], _ => rfl⟩
  · obtain ⟨Hs, st, ev, c, fo, ia, s, ins, S, w, k, h0, NW, I, he, hcan, htz, hbz, q⟩ := h
    first | rfl | (subst h0; rfl)
  · have hu := hu_of hr
    have nd := sc_do.nd
    obtain ⟨Hs, st, ev, c, fo, ia, s, ins, S, w, k, h0, NW, I, he, hcan, htz, hbz, q⟩ := h
    try subst h0
    refine ⟨_, (pss_cons (ps_asg (pv 1) (pg_tupk (K := W.K) (n := 2) rfl rfl (pgs_cons (pg_name (i := 2) nd rfl (Or.inl rfl)) (pgs_cons (pg_name (i := 3) nd rfl (Or.inl rfl)) pgs_nil)) rfl)) (pss_one (ps_if (pt_cmpR op_eq (pv 2) pe_str (nomark _)) (pss_one (ps_expr (pe_cal C_come rfl hr (by decide) hg rfl (pa_cons (pv 0) (pa_cons (pv 3) pa_nil))))) (pss_one (ps_if (pt_cmpR op_eq (pv 2) pe_str (nomark _)) (pss_one (ps_expr (pe_bm PySem.F.plainAttrs_list PySem.F.slot_list_append PySem.F.type_list_append mt_append (pe_fldk (K := W.K) rfl (pv 0) rfl) (pa_cons (pe_ixlk (K := W.K) rfl (pe_fldk (K := W.K) rfl (pv 0) rfl) (pv 3) (fun _ _ => rfl)) pa_nil)))) (pss_one (ps_if (pt_cmpR op_eq (pv 2) pe_str (nomark _)) (pss_one (ps_expr (pe_cal C_go rfl hr (by decide) hg rfl (pa_cons (pv 0) (pa_cons (pv 3) pa_nil))))) (pss_one (ps_if (pt_cmpR op_eq (pv 2) pe_str (nomark _)) (pss_one (ps_expr (pe_cal C_write_again rfl hr (by decide) hg rfl (pa_cons (pv 0) (pa_cons (pv 3) pa_nil))))) (pss_cons (ps_asg (pe_cmpR op_eq (pv 2) pe_str (nomark _)) (pg_sub (pe_fldk (K := W.K) rfl (pv 0) rfl) (pv 3) set_list)) (pss_one (ps_asg pe_dnewT (pg_sub (pe_fldk (K := W.K) rfl (pv 0) rfl) (pv 3) set_list))))))))))))), ?_⟩
    refine q_asg2 (x := .str w.str) (y := .int k) (ep_is (ev_var rfl) fun H' e => ⟨ev, rfl, e _ _ he⟩) fun H1 e1 => ?_
    have NW1 := NW.exx e1
    have wd : ∀ (v : Wo) {H' : Hp} {σ : L2.St}, σ[2]? = some (some (.str w.str)) → EvT (tTest (tOp rEq (tVar 2) (tC (.str v.str)))) σ H' (decide (w = v)) := fun v H' σ h => et_is (et_test (ev_op (ev_var h) ev_c (rv_eq rfl))) (wo_dec w v)
    have qq : ∀ {H2 H3 : Hp} {c' : Re}, Ex H H2 → Go ins.length c H2 c' H3 (doS s S ins.length w k) → Q .non H3 := fun e g => q _ _ (Go.ahead e g)
    have dle : S.done k ≤ 12 ∨ ¬ k < ins.length := by
      by_cases z : k < ins.length
      · have := I.done k z; have := NW.st.ok.r; exact .inl (by omega)
      · exact .inr z
    cases w with
    | come =>
      refine s_if (b := true) (wd .come rfl) (fun _ H2 e2 => ?_) fun h => by cases h
      obtain ⟨hk, _⟩ := can_letter hcan (.inl rfl)
      exact s_mut (vs := [.ref st, .int k]) (by walk_at "ev") fun H3 e3 => ⟨Hs, st, c, fo, ia, s, ins, S, k, rfl, (NW1.exx e2).exx e3, I, hk, by omega, by omega, fun H4 f4 N4 => qq ((e1.trans e2).trans e3) (Go.same f4 N4)⟩
    | double =>
      refine s_if (b := false) (wd .come rfl) (fun h => by cases h) fun _ H2 e2 => ?_
      refine s_if (b := true) (wd .double rfl) (fun _ H3 e3 => ?_) fun h => by cases h
      obtain ⟨hk, _⟩ := can_letter hcan (.inr rfl)
      have NW3 := (NW1.exx e2).exx e3
      obtain ⟨ls, b1, b2, b3⟩ := NW3.net.bag
      have hS : S.bag[k]? = some S.bag[k] := by simp [hk]
      have kl : k < ls.length := by omega
      have hL : ls[k]? = some ls[k] := by simp [kl]
      obtain ⟨p, m, hp1, hp2, hp3⟩ := b3 k _ _ hL hS
      have hL := hL.trans (congrArg some hp1)
      refine s_app b1 (ev_st T NW3.so (ev_var rfl) T.noat_State_bag st_bag) (ev_op (ev_st T NW3.so (ev_var rfl) T.noat_State_bag st_bag) (ev_var rfl) (rv_ixL (sq_of b1) (atI_nat hL))) (by omega) fun H4 e4 => ?_
      have N4 := NW3.net.letter (to := S.bag[k].1) (me := S.bag[k].2.1) (r := S.bag[k].2.2) b1 e4 (e4 _ _ hp2) hp3
      have ds : doS s S ins.length .double k = { S with bag := S.bag ++ [S.bag[k]], t := S.t + 1 } := by
        show { doubleS S k with t := S.t + 1 } = _
        unfold doubleS
        rw [hS]
      rw [ds] at q qq
      exact qq ((e1.trans e2).trans e3) (Go.same (fun a o h z => (upd_ne fun w => z (.inl w)).trans (e4 _ _ h)) (N4.later (T := S.t + 1) (Nat.le_succ _)))
    | go =>
      refine s_if (b := false) (wd .come rfl) (fun h => by cases h) fun _ H2 e2 => ?_
      refine s_if (b := false) (wd .double rfl) (fun h => by cases h) fun _ H3 e3 => ?_
      refine s_if (b := true) (wd .go rfl) (fun _ H4 e4 => ?_) fun h => by cases h
      obtain ⟨hk, _, hgo⟩ := can_mach hcan (by decide)
      obtain ⟨g1, g2⟩ := hgo rfl
      exact s_mut (vs := [.ref st, .int k]) (by walk_at "ev") fun H5 e5 => ⟨Hs, st, c, fo, ia, s, ins, S, k, rfl, (((NW1.exx e2).exx e3).exx e4).exx e5, I, hk, g1, g2, by omega, by omega, fun H6 c' g => qq ((((e1.trans e2).trans e3).trans e4).trans e5) g⟩
    | again =>
      refine s_if (b := false) (wd .come rfl) (fun h => by cases h) fun _ H2 e2 => ?_
      refine s_if (b := false) (wd .double rfl) (fun h => by cases h) fun _ H3 e3 => ?_
      refine s_if (b := false) (wd .go rfl) (fun h => by cases h) fun _ H4 e4 => ?_
      refine s_if (b := true) (wd .again rfl) (fun _ H5 e5 => ?_) fun h => by cases h
      obtain ⟨hk, _⟩ := can_mach hcan (by decide)
      exact s_mut (vs := [.ref st, .int k]) (by walk_at "ev") fun H6 e6 => ⟨Hs, st, c, fo, ia, s, ins, S, k, rfl, ((((NW1.exx e2).exx e3).exx e4).exx e5).exx e6, hk, by omega, dle.resolve_right (fun z => z hk), fun H7 f7 N7 => qq (((((e1.trans e2).trans e3).trans e4).trans e5).trans e6) (Go.same f7 (N7.later (T := S.t + 1) (by show (againUp S ins.length k _).t ≤ _; rw [(againUp_same S _ _ _).2.2.2.2]; exact Nat.le_succ _)))⟩
    | fall =>
      refine s_if (b := false) (wd .come rfl) (fun h => by cases h) fun _ H2 e2 => ?_
      refine s_if (b := false) (wd .double rfl) (fun h => by cases h) fun _ H3 e3 => ?_
      refine s_if (b := false) (wd .go rfl) (fun h => by cases h) fun _ H4 e4 => ?_
      refine s_if (b := false) (wd .again rfl) (fun h => by cases h) fun _ H5 e5 => ?_
      obtain ⟨hk, _⟩ := can_mach hcan (by decide)
      have NW5 := (((NW1.exx e2).exx e3).exx e4).exx e5
      refine q_setP (P := (MP.eq (.bl false)).p) NW5.net.up (ep_ev (ev_is (ev_op (ev_var rfl) ev_c (rv_eq rfl)) (congrArg V.bl (wo_dec .fall .rise)))) (ev_st T NW5.so (ev_var rfl) T.noat_State_are_up st_up) (ev_var rfl) (by simpa using hk) (fun _ _ _ _ p => p) fun v H6 e6 pv => ?_
      have pv : v = .bl false := pv
      subst pv
      have f6 : Fr (fun a => a = c.up) H5 (upd H6 c.up (.lst (((List.range ins.length).map fun i => V.bl (S.up i)).set k (.bl false)))) := fun a o h z => (upd_ne z).trans (e6 _ _ h)
      have so6 := NW5.st.ex (NW5.exf f6 fun a z => .inr (.inl z))
      have k6 := f6 _ _ NW5.net.kept (by obtain ⟨ρ, R⟩ := NW5.net.ro; exact ne_ro R.kept R.up (by decide))
      exact fun d hd => by
        have e7 := Ex.new (o := .dT []) hd
        refine g_set (e7 _ _ k6) (ev_st T (so6.ex e7) (ev_var rfl) T.noat_State_kept st_kept) (ev_var rfl) (by simpa using hk) fun H8 e8 => ?_
        exact qq ((((e1.trans e2).trans e3).trans e4).trans e5) (NW5.net.fallen hk e6 hd (e7.trans e8) (e8 _ _ upd_same))
    | rise =>
      refine s_if (b := false) (wd .come rfl) (fun h => by cases h) fun _ H2 e2 => ?_
      refine s_if (b := false) (wd .double rfl) (fun h => by cases h) fun _ H3 e3 => ?_
      refine s_if (b := false) (wd .go rfl) (fun h => by cases h) fun _ H4 e4 => ?_
      refine s_if (b := false) (wd .again rfl) (fun h => by cases h) fun _ H5 e5 => ?_
      obtain ⟨hk, _⟩ := can_mach hcan (by decide)
      have NW5 := (((NW1.exx e2).exx e3).exx e4).exx e5
      refine q_setP (P := (MP.eq (.bl true)).p) NW5.net.up (ep_ev (ev_is (ev_op (ev_var rfl) ev_c (rv_eq rfl)) (congrArg V.bl (wo_dec .rise .rise)))) (ev_st T NW5.so (ev_var rfl) T.noat_State_are_up st_up) (ev_var rfl) (by simpa using hk) (fun _ _ _ _ p => p) fun v H6 e6 pv => ?_
      have pv : v = .bl true := pv
      subst pv
      have f6 : Fr (fun a => a = c.up) H5 (upd H6 c.up (.lst (((List.range ins.length).map fun i => V.bl (S.up i)).set k (.bl true)))) := fun a o h z => (upd_ne z).trans (e6 _ _ h)
      have so6 := NW5.st.ex (NW5.exf f6 fun a z => .inr (.inl z))
      have k6 := f6 _ _ NW5.net.kept (by obtain ⟨ρ, R⟩ := NW5.net.ro; exact ne_ro R.kept R.up (by decide))
      exact fun d hd => by
        have e7 := Ex.new (o := .dT []) hd
        refine g_set (e7 _ _ k6) (ev_st T (so6.ex e7) (ev_var rfl) T.noat_State_kept st_kept) (ev_var rfl) (by simpa using hk) fun H8 e8 => ?_
        exact qq ((((e1.trans e2).trans e3).trans e4).trans e5) (NW5.net.fallen hk e6 hd (e7.trans e8) (e8 _ _ upd_same))
end Kn

set_option Elab.async false
set_option linter.all false
set_option maxRecDepth 100000
set_option maxHeartbeats 4000000
/-! the package's nets: what they tell -/
namespace Kn
open PySem PySem.Spec PyProof.Rows L2 Evl
local macro_rules | `(tactic| walk_at "ev") => `(tactic| first
  | ((with_reducible apply ev_var); exact rfl)
  | with_reducible exact ev_c
  | with_reducible exact ea_nil
  | ((with_reducible apply ea_cons) <;> walk_at "ev")
  | ((with_reducible apply ev_int); walk_at "ev")
  | ((with_reducible apply ev_op) <;> walk_at "ev")
  | ((with_reducible apply ev_un) <;> walk_at "ev")
  | with_reducible exact rv_I0
  | with_reducible exact rv_isN
  | ((with_reducible apply rv_eq); exact rfl)
  | ((with_reducible apply rv_ne); exact rfl)
  | with_reducible exact ru_neg
  | ((with_reducible apply rv_I); first | exact Or.inl (by decide) | decide | assumption | skip)
  | ((with_reducible apply rv_ixL) <;> first | assumption | exact rfl | skip)
  | ((with_reducible apply rv_ixT) <;> first | assumption | exact rfl | skip)
  | ((with_reducible apply ev_fld) <;> first | walk_at "ev" | assumption | exact rfl | skip)
  | ((with_reducible apply ev_len) <;> first | walk_at "ev" | assumption | skip)
  | ((with_reducible apply ev_lenT) <;> first | walk_at "ev" | assumption | skip)
  | exact rv_eq rfl
  | exact rv_ne rfl
  | assumption
  | skip)
section
variable {W : Wd} {K : PySem.W.Frag} {σ : L2.St} {H : Hp} {ta tb te : TE}
/-- a comprehension over a list, without a test -/
theorem ep_lcL {a : Addr} {xs : List V} {tl : TE} {j : Nat} {vs : List Nat} (Pi : Nat → MP) (h : Ev tl σ H (.ref a)) (hx : SqL K H a xs) (hz : xs.length ≤ 40000) (hw : ∀ x, wipe ((wipe σ vs).set j (some x)) vs = wipe σ vs)
    (he : ∀ (i : Nat) (x : V), xs[i]? = some x → EvP te ((wipe σ vs).set j (some x)) H (Pi i).p) : EvP (tLc (iList K tl) (gName j) tYes te vs) σ H (LstP xs.length Pi) := by
  refine ep_lcW (J := Itl K a) hz (fun H1 e R k => h H1 e _ fun H2 e2 => ⟨a, rfl, ⟨xs, ex_l (e.trans e2) hx⟩, k H2 e2⟩) (fun i H1 e hi => ⟨xs, xs[i], ex_l e hx, by simp [hi]⟩) (fun H1 e => ⟨xs, ex_l e hx, Nat.le_refl _⟩) (fun i H1 x H2 e hi y => ?_) (fun k q => k _ _ q)
  obtain ⟨rfl, y2⟩ := y
  refine ⟨Ex.refl _, Ex.refl _, hw _, fun H4 e4 Q q => ?_⟩
  exact he i x (y2 xs (ex_l e hx)) H4 (e.trans e4) Q q
end
def sp_answer_of (W : Wd) : GS := fun vs H Q => ∃ (st : Addr) (c : Re) (fo ia : Addr) (s : Sh) (ins : List Int) (S : NS) (me : Nat), vs = [.ref st, .int me] ∧ StOk W H st c fo ia s ins ∧ NetAt H ins.length c S ∧ InvS s ins.length ins S ∧ me < ins.length ∧ Ret (MP.eq (iV (answers s S me))).p H Q
abbrev N_answer_of : List Str := ["state", "me"]
theorem sc_answer_of : FnScope N_answer_of ["state", "me"] (defScope s_answer_of) := ⟨rfl, rfl, rfl, by decide +kernel, rfl, by decide +kernel, by decide +kernel⟩
theorem C_answer_of {W : Wd} (T : TopW W) : Cal W "answer_of" 4 (sp_answer_of W) := by
  have C_has_rounds := C_has_rounds T
  have C_told_answer := C_told_answer T
  refine cal_mk T (d := d_answer_of) (ps := ["state", "me"]) 35 33 rfl rfl rfl rfl rfl fun f fd F => ⟨fng_of F sc_answer_of (fun vs H Q h => ?_) (fun cdv A outer s H vs Q hr hg h => ?_), F.bindsN fun _ _ _ _ _ _ us hl => match us, hl with | [_, _], _ => rfl⟩
  · obtain ⟨st, c, fo, ia, s, ins, S, me, h0, so, N, I, hm, q⟩ := h
    first | rfl | (subst h0; rfl)
  · have hu := hu_of hr
    have nd := sc_answer_of.nd
    obtain ⟨st, c, fo, ia, s, ins, S, me, h0, so, N, I, hm, q⟩ := h
    try subst h0
    refine ⟨_, (pss_cons (ps_if (pt_val (pe_cal C_has_rounds rfl hr (by decide) hg rfl (pa_cons (pv 0) (pa_cons (pv 1) pa_nil)))) (pss_one (ps_ret pe_non)) pss_nil) (pss_one (ps_ret (pe_cal C_told_answer rfl hr (by decide) hg rfl (pa_cons (pe_fldk (K := W.K) rfl (pv 0) rfl) (pa_cons (pv 1) (pa_cons (pe_ixlk (K := W.K) rfl (pe_ixlk (K := W.K) rfl (pe_fldk (K := W.K) rfl (pv 0) rfl) (pv 1) (fun _ _ => rfl)) (pe_un un_neg pe_int) (fun _ _ => rfl)) pa_nil))))))), ?_⟩
    have hd := I.done me hm
    refine q_when (b := decide (S.done me < s.rounds)) (et_B (ev_calR (by walk_at "ev") fun H1 e Q k => ⟨st, c, fo, ia, s, ins, S, me, rfl, so.ex e, N.exx e, hm, k⟩)) (fun h H1 e1 => ?_) fun h H1 e1 => ?_
    · have hlt := of_decide_eq_true h
      have : answers s S me = none := by unfold answers; rw [if_neg (by omega)]
      rw [this] at q
      exact s_retE ev_c fun v H2 e2 p => q v H2 (e1.trans e2) p
    · have hge := of_decide_eq_false h
      have hde : S.done me = s.rounds := by omega
      have : answers s S me = ansD s me (S.note me (S.done me)) := by unfold answers; rw [if_pos hde]
      rw [this] at q
      have so1 := so.ex e1
      have N1 := N.exx e1
      obtain ⟨vs, v1, v2, v3⟩ := N1.no me hm
      have hx : vs[S.done me]? = some (vs[S.done me]'(by omega)) := by simp [v2]
      refine s_retP (P := (MP.eq (iV (ansD s me (S.note me (S.done me))))).p) (ep_cal (vs := [.ref fo, .int me, vs[S.done me]'(by omega)]) (ea_cons (ev_st T so1 (ev_var rfl) T.noat_State_folk st_folk) (ea_cons (ev_var rfl) (ea_cons (ev_op (ev_ixr N1.notes hm (ev_st T so1 (ev_var rfl) T.noat_State_notes st_notes) (ev_var rfl)) (ev_un ev_c ru_neg) (rv_ixL (sq_of v1) (atI_neg1 v2 hx))) ea_nil))) fun H2 e2 Q k => ?_) fun v H2 e2 p => q v H2 (e1.trans e2) p
      exact ⟨fo, s, me, S.done me, _, _, rfl, so1.f.ex e2, (v3 _ _ hx).ex e2, I.mem me _ hm (Nat.le_refl _), so.ok.k, fun z => by rw [hde]; exact so.ok.k1 z, k⟩
/-- a net's instance -/
def NetI (W : Wd) (H : Hp) (g st : Addr) : Prop := ∃ dx, H g = some (.ins (cN W) dx [("kept_state", .ref st)])
theorem NetI.ex {W : Wd} {H H' : Hp} {g st : Addr} (h : NetI W H g st) (e : Ex H H') : NetI W H' g st := h.elim fun dx q => ⟨dx, e _ _ q⟩
theorem ev_ks {W : Wd} {σ : L2.St} {H : Hp} {ta : TE} {g st : Addr} (T : TopW W) (h : NetI W H g st) (ha : Ev ta σ H (.ref g)) : Ev (tFld W.K ta "kept_state") σ H (.ref st) := by
  obtain ⟨dx, q⟩ := h
  exact ev_fld ha q T.cls_Net T.noat_Net_kept_state (lk_hit (fs := []))
/-- the letters as a list -/
def BagP (S : NS) (v : V) (H : Hp) : Prop := ∃ (a : Addr) (ls : List V), v = .ref a ∧ H a = some (.lst ls) ∧ ls.length = S.bag.length ∧ ∀ (i : Nat) (v : V) (l : Nat × Nat × Nat), ls[i]? = some v → S.bag[i]? = some l → LetP H S l v
def sp_Net_bag (W : Wd) : GS := fun vs H Q => ∃ (g st : Addr) (c : Re) (fo ia : Addr) (s : Sh) (ins : List Int) (S : NS), vs = [.ref g] ∧ NetI W H g st ∧ StOk W H st c fo ia s ins ∧ NetAt H ins.length c S ∧ Ret (BagP S) H Q
abbrev N_Net_bag : List Str := ["self"]
theorem sc_Net_bag : FnScope N_Net_bag ["self"] (defScope s_Net_bag) := ⟨rfl, rfl, rfl, by decide +kernel, rfl, by decide +kernel, by decide +kernel⟩
theorem C_Net_bag {W : Wd} (T : TopW W) : Met W (He.ga W.K "Net") "bag" 1 (sp_Net_bag W) := by
  refine met_mk T (d := d_Net_bag) (ps := ["self"]) 38 98 rfl rfl rfl rfl rfl fun f fd F => ⟨fng_of F sc_Net_bag (fun vs H Q h => ?_) (fun cdv A outer s H vs Q hr hg h => ?_), F.bindsN fun _ _ _ _ _ _ us hl => match us, hl with | [_], _ => rfl⟩
  · obtain ⟨g, st, c, fo, ia, s, ins, S, h0, ni, so, N, q⟩ := h
    first | rfl | (subst h0; rfl)
  · have hu := hu_of hr
    have nd := sc_Net_bag.nd
    obtain ⟨g, st, c, fo, ia, s, ins, S, h0, ni, so, N, q⟩ := h
    try subst h0
    refine ⟨_, (pss_one (ps_ret (pe_callTy (cr_listk (K := W.K) rfl) rfl T.free_list boot_list (pa_cons (pe_fldk (K := W.K) rfl (pe_fldk (K := W.K) rfl (pv 0) rfl) rfl) pa_nil)))), ?_⟩
    obtain ⟨ls, b1, b2, b3⟩ := N.bag
    exact s_retP (P := BagP S) (fun H1 e1 Q k => el_list (K := W.K) (ev_st T so (ev_ks T ni (ev_var rfl)) T.noat_State_bag st_bag) (sq_of b1) H1 e1 _ fun p H2 hp e2 hp2 => k _ H2 e2 ⟨p, ls, rfl, hp2, b2, fun i v l x y => (b3 i v l x y).up (Ex.frT (e1.trans e2))⟩) q
def sp_Net_at (W : Wd) : GS := fun vs H Q => ∃ (g st : Addr) (c : Re) (fo ia : Addr) (s : Sh) (ins : List Int) (S : NS), vs = [.ref g] ∧ NetI W H g st ∧ StOk W H st c fo ia s ins ∧ NetAt H ins.length c S ∧ Ret (MP.tup ins.length fun me => MP.eq (.int (S.done me : Nat))).p H Q
abbrev N_Net_at : List Str := ["self", "state", "me"]
theorem sc_Net_at : FnScope N_Net_at ["self"] (defScope s_Net_at) := ⟨rfl, rfl, rfl, by decide +kernel, rfl, by decide +kernel, by decide +kernel⟩
theorem C_Net_at {W : Wd} (T : TopW W) : Met W (He.ga W.K "Net") "at" 2 (sp_Net_at W) := by
  have C_done_by := C_done_by T
  have C_many_of := C_many_of T
  refine met_mk T (d := d_Net_at) (ps := ["self"]) 39 99 rfl rfl rfl rfl rfl fun f fd F => ⟨fng_of F sc_Net_at (fun vs H Q h => ?_) (fun cdv A outer s H vs Q hr hg h => ?_), F.bindsN fun _ _ _ _ _ _ us hl => match us, hl with | [_], _ => rfl⟩
  · obtain ⟨g, st, c, fo, ia, s, ins, S, h0, ni, so, N, q⟩ := h
    first | rfl | (subst h0; rfl)
  · have hu := hu_of hr
    have nd := sc_Net_at.nd
    obtain ⟨g, st, c, fo, ia, s, ins, S, h0, ni, so, N, q⟩ := h
    try subst h0
    refine ⟨_, (pss_cons (ps_set (i := 1) nd rfl (Or.inr rfl) (pe_fldk (K := W.K) rfl (pv 0) rfl)) (pss_one (ps_ret (pe_callTy (cr_tupk (K := W.K) rfl) rfl T.free_tuple boot_tuple (pa_cons (pe_lc (own := [("me", 2)]) rfl nd (pi_range1 rfl T.free_range (pa_cons (pe_cal C_many_of rfl hr (by decide) hg rfl (pa_cons (pv 1) pa_nil)) pa_nil)) (blkOk_by (own := [("me", 2)]) (N := N_Net_at) (sc := defScope s_Net_at) (by decide +kernel)) (fun _ _ _ _ _ => (pg_name (i := 2) nd rfl (Or.inl rfl))) (fun _ _ _ _ _ => pts_nil) (fun _ _ _ _ _ => (pe_cal C_done_by rfl hr (by decide) hg rfl (pa_cons (pv 1) (pa_cons (pv 2) pa_nil))))) pa_nil))))), ?_⟩
    have n5 := so.n5
    refine q_asg (v := .ref st) (ev_ks T ni (ev_var rfl)) fun H1 e1 => ?_
    refine s_retP (P := (MP.tup ins.length fun me => MP.eq (.int (S.done me : Nat))).p) (ep_tupOf (ep_lcR (fun me => MP.eq (.int (S.done me : Nat))) (ea_cons (ev_calR (by walk_at "ev") fun H2 e Q k => ⟨st, c, fo, ia, s, ins, rfl, so.ex (e1.trans e), k⟩) ea_nil) (by omega) (fun _ => rfl) fun i hi => ?_)) fun v H2 e2 p => q v H2 (e1.trans e2) p
    exact ep_ev (ev_calR (by walk_at "ev") fun H2 e Q k => ⟨st, c, fo, ia, s, ins, S, i, rfl, so.ex (e1.trans e), N.exx (e1.trans e), hi, k⟩)
def sp_Net_missed (W : Wd) : GS := fun vs H Q => ∃ (g st : Addr) (c : Re) (fo ia : Addr) (s : Sh) (ins : List Int) (S : NS), vs = [.ref g] ∧ NetI W H g st ∧ StOk W H st c fo ia s ins ∧ NetAt H ins.length c S ∧ Ret (MP.tup ins.length fun me => MP.tupX ((S.miss me).map oV)).p H Q
abbrev N_Net_missed : List Str := ["self", "missed"]
theorem sc_Net_missed : FnScope N_Net_missed ["self"] (defScope s_Net_missed) := ⟨rfl, rfl, rfl, by decide +kernel, rfl, by decide +kernel, by decide +kernel⟩
theorem C_Net_missed {W : Wd} (T : TopW W) : Met W (He.ga W.K "Net") "missed" 1 (sp_Net_missed W) := by
  refine met_mk T (d := d_Net_missed) (ps := ["self"]) 40 100 rfl rfl rfl rfl rfl fun f fd F => ⟨fng_of F sc_Net_missed (fun vs H Q h => ?_) (fun cdv A outer s H vs Q hr hg h => ?_), F.bindsN fun _ _ _ _ _ _ us hl => match us, hl with | [_], _ => rfl⟩
  · obtain ⟨g, st, c, fo, ia, s, ins, S, h0, ni, so, N, q⟩ := h
    first | rfl | (subst h0; rfl)
  · have hu := hu_of hr
    have nd := sc_Net_missed.nd
    obtain ⟨g, st, c, fo, ia, s, ins, S, h0, ni, so, N, q⟩ := h
    try subst h0
    refine ⟨_, (pss_one (ps_ret (pe_callTy (cr_tupk (K := W.K) rfl) rfl T.free_tuple boot_tuple (pa_cons (pe_lc (own := [("missed", 1)]) rfl nd (pi_listk (K := W.K) rfl (pe_fldk (K := W.K) rfl (pe_fldk (K := W.K) rfl (pv 0) rfl) rfl)) (blkOk_by (own := [("missed", 1)]) (N := N_Net_missed) (sc := defScope s_Net_missed) (by decide +kernel)) (fun _ _ _ _ _ => (pg_name (i := 1) nd rfl (Or.inl rfl))) (fun _ _ _ _ _ => pts_nil) (fun _ _ _ _ _ => (pe_callTy (cr_tupk (K := W.K) rfl) rfl T.free_tuple boot_tuple (pa_cons (pv 1) pa_nil)))) pa_nil)))), ?_⟩
    have n5 := so.n5
    have len : ((List.range ins.length).map fun i => V.ref (c.mi i)).length = ins.length := by simp
    refine s_retP (P := (MP.tup ins.length fun me => MP.tupX ((S.miss me).map oV)).p) ?_ q
    rw [← len]
    refine ep_tupOf (ep_lcL (fun me => MP.tupX ((S.miss me).map oV)) (ev_st T so (ev_ks T ni (ev_var rfl)) T.noat_State_missed st_missed) (sq_of N.missed) (by rw [len]; omega) (fun _ => rfl) fun i x hx => ?_)
    have hi : i < ins.length := by
      have := (List.getElem?_eq_some_iff.1 hx).1
      rw [len] at this
      exact this
    rw [map_get hi] at hx
    cases hx
    exact ep_U (eu_tupL (ev_var rfl) (sq_of (N.mi i hi)))
def sp_Net_answers (W : Wd) : GS := fun vs H Q => ∃ (g st : Addr) (c : Re) (fo ia : Addr) (s : Sh) (ins : List Int) (S : NS), vs = [.ref g] ∧ NetI W H g st ∧ StOk W H st c fo ia s ins ∧ NetAt H ins.length c S ∧ InvS s ins.length ins S ∧ Ret (MP.tup ins.length fun me => MP.eq (iV (answers s S me))).p H Q
abbrev N_Net_answers : List Str := ["self", "state", "me"]
theorem sc_Net_answers : FnScope N_Net_answers ["self"] (defScope s_Net_answers) := ⟨rfl, rfl, rfl, by decide +kernel, rfl, by decide +kernel, by decide +kernel⟩
theorem C_Net_answers {W : Wd} (T : TopW W) : Met W (He.ga W.K "Net") "answers" 5 (sp_Net_answers W) := by
  have C_answer_of := C_answer_of T
  have C_many_of := C_many_of T
  refine met_mk T (d := d_Net_answers) (ps := ["self"]) 41 101 rfl rfl rfl rfl rfl fun f fd F => ⟨fng_of F sc_Net_answers (fun vs H Q h => ?_) (fun cdv A outer s H vs Q hr hg h => ?_), F.bindsN fun _ _ _ _ _ _ us hl => match us, hl with | [_], _ => rfl⟩
  · obtain ⟨g, st, c, fo, ia, s, ins, S, h0, ni, so, N, I, q⟩ := h
    first | rfl | (subst h0; rfl)
  · have hu := hu_of hr
    have nd := sc_Net_answers.nd
    obtain ⟨g, st, c, fo, ia, s, ins, S, h0, ni, so, N, I, q⟩ := h
    try subst h0
    refine ⟨_, (pss_cons (ps_set (i := 1) nd rfl (Or.inr rfl) (pe_fldk (K := W.K) rfl (pv 0) rfl)) (pss_one (ps_ret (pe_callTy (cr_tupk (K := W.K) rfl) rfl T.free_tuple boot_tuple (pa_cons (pe_lc (own := [("me", 2)]) rfl nd (pi_range1 rfl T.free_range (pa_cons (pe_cal C_many_of rfl hr (by decide) hg rfl (pa_cons (pv 1) pa_nil)) pa_nil)) (blkOk_by (own := [("me", 2)]) (N := N_Net_answers) (sc := defScope s_Net_answers) (by decide +kernel)) (fun _ _ _ _ _ => (pg_name (i := 2) nd rfl (Or.inl rfl))) (fun _ _ _ _ _ => pts_nil) (fun _ _ _ _ _ => (pe_cal C_answer_of rfl hr (by decide) hg rfl (pa_cons (pv 1) (pa_cons (pv 2) pa_nil))))) pa_nil))))), ?_⟩
    have n5 := so.n5
    refine q_asg (v := .ref st) (ev_ks T ni (ev_var rfl)) fun H1 e1 => ?_
    refine s_retP (P := (MP.tup ins.length fun me => MP.eq (iV (answers s S me))).p) (ep_tupOf (ep_lcR (fun me => MP.eq (iV (answers s S me))) (ea_cons (ev_calR (by walk_at "ev") fun H2 e Q k => ⟨st, c, fo, ia, s, ins, rfl, so.ex (e1.trans e), k⟩) ea_nil) (by omega) (fun _ => rfl) fun i hi => ?_)) fun v H2 e2 p => q v H2 (e1.trans e2) p
    exact ep_cal (by walk_at "ev") fun H2 e Q k => ⟨st, c, fo, ia, s, ins, S, i, rfl, so.ex (e1.trans e), N.exx (e1.trans e), I, hi, k⟩
def sp_Net_event (W : Wd) : GS := fun vs H Q => ∃ (Hs : Hp) (g st ev : Addr) (c : Re) (fo ia : Addr) (s : Sh) (ins : List Int) (S : NS) (w : Wo) (k : Nat), vs = [.ref g, .ref ev] ∧ NetI W H g st ∧ NetW W Hs H st c fo ia s ins S ∧ InvS s ins.length ins S ∧ EvtAt H ev w k ∧ canS s S ins.length w (k : Int) = true ∧ S.t < 70000 ∧ S.bag.length ≤ 70000 ∧
  ∀ H' c', Go ins.length c H c' H' (doS s S ins.length w k) → Q .non H'
abbrev N_Net_event : List Str := ["self", "event"]
theorem sc_Net_event : FnScope N_Net_event ["self", "event"] (defScope s_Net_event) := ⟨rfl, rfl, rfl, by decide +kernel, rfl, by decide +kernel, by decide +kernel⟩
theorem C_Net_event {W : Wd} (T : TopW W) : Met W (He.ga W.K "Net") "event" 5 (sp_Net_event W) := by
  have C_can_be := C_can_be T
  have C_do := C_do T
  refine met_mk T (d := d_Net_event) (ps := ["self", "event"]) 37 97 rfl rfl rfl rfl rfl fun f fd F => ⟨fng_of F sc_Net_event (fun vs H Q h => ?_) (fun cdv A outer s H vs Q hr hg h => ?_), F.bindsN fun _ _ _ _ _ _ us hl => match us, hl with | [_, _], _ => rfl⟩
  · obtain ⟨Hs, g, st, ev, c, fo, ia, s, ins, S, w, k, h0, ni, NW, I, he, hcan, htz, hbz, q⟩ := h
    first | rfl | (subst h0; rfl)
  · have hu := hu_of hr
    have nd := sc_Net_event.nd
    obtain ⟨Hs, g, st, ev, c, fo, ia, s, ins, S, w, k, h0, ni, NW, I, he, hcan, htz, hbz, q⟩ := h
    try subst h0
    refine ⟨_, (pss_cons (ps_if (pt_not (pt_val (pe_cal C_can_be rfl hr (by decide) hg rfl (pa_cons (pe_fldk (K := W.K) rfl (pv 0) rfl) (pa_cons (pv 1) pa_nil))))) (pss_one ps_never) pss_nil) (pss_one (ps_expr (pe_cal C_do rfl hr (by decide) hg rfl (pa_cons (pe_fldk (K := W.K) rfl (pv 0) rfl) (pa_cons (pv 1) pa_nil)))))), ?_⟩
    refine q_when (b := false) (et_not (et_B (ev_calR (v := .bl true) (ea_cons (ev_ks T ni (ev_var rfl)) (ea_cons (ev_var rfl) ea_nil)) fun H1 e Q kq => ⟨st, ev, c, fo, ia, s, ins, S, w, k, rfl, NW.so.ex e, NW.net.exx e, e _ _ he, hcan, fun l hl => (I.bag l hl).1, kq⟩))) (fun h => by cases h) fun _ H1 e1 => ?_
    exact s_mut (vs := [.ref st, .ref ev]) (ea_cons (ev_ks T (ni.ex e1) (ev_var rfl)) (ea_cons (ev_var rfl) ea_nil)) fun H2 e2 => ⟨Hs, st, ev, c, fo, ia, s, ins, S, w, k, rfl, (NW.exx e1).exx e2, I, (e1.trans e2) _ _ he, hcan, htz, hbz, fun H3 c' gg => q H3 c' (Go.ahead (e1.trans e2) gg)⟩
end Kn

set_option Elab.async false
set_option linter.all false
set_option maxRecDepth 100000
set_option maxHeartbeats 4000000
/-! the package's nets: begun -/
namespace Kn
open PySem PySem.Spec PyProof.Rows L2 Evl
local macro_rules | `(tactic| walk_at "ev") => `(tactic| first
  | ((with_reducible apply ev_var); exact rfl)
  | with_reducible exact ev_c
  | with_reducible exact ea_nil
  | ((with_reducible apply ea_cons) <;> walk_at "ev")
  | ((with_reducible apply ev_int); walk_at "ev")
  | ((with_reducible apply ev_op) <;> walk_at "ev")
  | ((with_reducible apply ev_un) <;> walk_at "ev")
  | with_reducible exact rv_I0
  | with_reducible exact rv_isN
  | ((with_reducible apply rv_eq); exact rfl)
  | ((with_reducible apply rv_ne); exact rfl)
  | with_reducible exact ru_neg
  | ((with_reducible apply rv_I); first | exact Or.inl (by decide) | decide | assumption | skip)
  | ((with_reducible apply rv_ixL) <;> first | assumption | exact rfl | skip)
  | ((with_reducible apply rv_ixT) <;> first | assumption | exact rfl | skip)
  | ((with_reducible apply ev_fld) <;> first | walk_at "ev" | assumption | exact rfl | skip)
  | ((with_reducible apply ev_len) <;> first | walk_at "ev" | assumption | skip)
  | ((with_reducible apply ev_lenT) <;> first | walk_at "ev" | assumption | skip)
  | exact rv_eq rfl
  | exact rv_ne rfl
  | assumption
  | skip)
open Classical in
theorem ro_mk {n : Nat} {c : Re} (a1 : c.up ≠ c.bag) (a2 : c.notes ≠ c.bag) (a3 : c.notes ≠ c.up) (a4 : c.missed ≠ c.bag) (a5 : c.missed ≠ c.up) (a6 : c.missed ≠ c.notes) (a7 : c.kept ≠ c.bag) (a8 : c.kept ≠ c.up) (a9 : c.kept ≠ c.notes) (a10 : c.kept ≠ c.missed)
    (b1 : ∀ i, i < n → c.no i ≠ c.bag ∧ c.no i ≠ c.up ∧ c.no i ≠ c.notes ∧ c.no i ≠ c.missed ∧ c.no i ≠ c.kept) (b2 : ∀ i, i < n → c.mi i ≠ c.bag ∧ c.mi i ≠ c.up ∧ c.mi i ≠ c.notes ∧ c.mi i ≠ c.missed ∧ c.mi i ≠ c.kept)
    (b3 : ∀ i, i < n → c.ke i ≠ c.bag ∧ c.ke i ≠ c.up ∧ c.ke i ≠ c.notes ∧ c.ke i ≠ c.missed ∧ c.ke i ≠ c.kept) (d1 : ∀ i j, i < n → j < n → c.mi i ≠ c.no j) (d2 : ∀ i j, i < n → j < n → c.ke i ≠ c.no j) (d3 : ∀ i j, i < n → j < n → c.ke i ≠ c.mi j)
    (i1 : ∀ i j, i < n → j < n → c.no i = c.no j → i = j) (i2 : ∀ i j, i < n → j < n → c.mi i = c.mi j → i = j) (i3 : ∀ i j, i < n → j < n → c.ke i = c.ke j → i = j) : ∃ ρ, Ro ρ n c := by
  refine ⟨fun a => if a = c.bag then 0 else if a = c.up then 1 else if a = c.notes then 2 else if a = c.missed then 3 else if a = c.kept then 4 else if h : ∃ i, i < n ∧ a = c.no i then 5 + 3 * h.choose else if h : ∃ i, i < n ∧ a = c.mi i then 6 + 3 * h.choose else if h : ∃ i, i < n ∧ a = c.ke i then 7 + 3 * h.choose else 1, ?_⟩
  refine ⟨if_pos rfl, ?_, ?_, ?_, ?_, fun i hi => ?_, fun i hi => ?_, fun i hi => ?_⟩
  · show (if c.up = c.bag then _ else _) = _
    rw [if_neg a1, if_pos rfl]
  · show (if c.notes = c.bag then _ else _) = _
    rw [if_neg a2, if_neg a3, if_pos rfl]
  · show (if c.missed = c.bag then _ else _) = _
    rw [if_neg a4, if_neg a5, if_neg a6, if_pos rfl]
  · show (if c.kept = c.bag then _ else _) = _
    rw [if_neg a7, if_neg a8, if_neg a9, if_neg a10, if_pos rfl]
  · obtain ⟨x1, x2, x3, x4, x5⟩ := b1 i hi
    show (if c.no i = c.bag then _ else _) = _
    have h : ∃ j, j < n ∧ c.no i = c.no j := ⟨i, hi, rfl⟩
    rw [if_neg x1, if_neg x2, if_neg x3, if_neg x4, if_neg x5, dif_pos h]
    rw [← i1 i _ hi h.choose_spec.1 h.choose_spec.2]
  · obtain ⟨x1, x2, x3, x4, x5⟩ := b2 i hi
    show (if c.mi i = c.bag then _ else _) = _
    have h : ∃ j, j < n ∧ c.mi i = c.mi j := ⟨i, hi, rfl⟩
    have h0 : ¬ ∃ j, j < n ∧ c.mi i = c.no j := fun ⟨j, hj, e⟩ => d1 i j hi hj e
    rw [if_neg x1, if_neg x2, if_neg x3, if_neg x4, if_neg x5, dif_neg h0, dif_pos h]
    rw [← i2 i _ hi h.choose_spec.1 h.choose_spec.2]
  · obtain ⟨x1, x2, x3, x4, x5⟩ := b3 i hi
    show (if c.ke i = c.bag then _ else _) = _
    have h : ∃ j, j < n ∧ c.ke i = c.ke j := ⟨i, hi, rfl⟩
    have h0 : ¬ ∃ j, j < n ∧ c.ke i = c.no j := fun ⟨j, hj, e⟩ => d2 i j hi hj e
    have h1 : ¬ ∃ j, j < n ∧ c.ke i = c.mi j := fun ⟨j, hj, e⟩ => d3 i j hi hj e
    rw [if_neg x1, if_neg x2, if_neg x3, if_neg x4, if_neg x5, dif_neg h0, dif_neg h1, dif_pos h]
    rw [← i3 i _ hi h.choose_spec.1 h.choose_spec.2]
/-- a new list of new objects -/
structure NewL (n : Nat) (o : Nat → HO) (H : Hp) (Dl : Addr) (g : Nat → Addr) (H2 : Hp) : Prop where
  fresh : H Dl = none
  ex : Ex H H2
  l : H2 Dl = some (.lst ((List.range n).map fun i => .ref (g i)))
  fr : ∀ i, i < n → H (g i) = none ∧ g i ≠ Dl ∧ H2 (g i) = some (o i)
  inj : ∀ i j, i < n → j < n → g i = g j → i = j
section
variable {W : Wd} {K : PySem.W.Frag} {σ : L2.St} {H : Hp} {ta tb te tl : TE} {tz : TS} {D : Ends}
theorem s_lcN {a : Addr} {xs : List V} {j : Nat} {vs : List Nat} {o : Nat → HO} {Q : VK} (h : Ev tl σ H (.ref a)) (hx : H a = some (.tup xs)) (hz : xs.length ≤ 40000) (hw : ∀ x, wipe ((wipe σ vs).set j (some x)) vs = wipe σ vs)
    (he : ∀ (i : Nat) (x : V) (H1 : Hp), xs[i]? = some x → ∀ Q : VK, (∀ p, H1 p = none → Q (.ref p) (upd H1 p (o i))) → te ((wipe σ vs).set j (some x)) H1 Q)
    (k : ∀ Dl g H2, NewL xs.length o H Dl g H2 → Q (.ref Dl) H2) : tLc (iTup K tl) (gName j) tYes te vs σ H Q := by
  refine h H (Ex.refl H) _ fun H1 e1 => ⟨a, rfl, ⟨xs, st_of (e1 _ _ hx)⟩, fun Dl hD => ?_⟩
  have W := walk_tup (K := K) (a := a) (xs := xs)
  have hx1 : H1 a = some (.tup xs) := e1 _ _ hx
  refine ⟨fun i m H' => m = xs.length - i ∧ i ≤ xs.length ∧ Ex H1 H' ∧ ∃ g : Nat → Addr, H' Dl = some (.lst ((List.range i).map fun i => .ref (g i))) ∧ (∀ i2, i2 < i → H1 (g i2) = none ∧ g i2 ≠ Dl ∧ H' (g i2) = some (o i2)) ∧ ∀ i2 j2, i2 < i → j2 < i → g i2 = g j2 → i2 = j2,
    ⟨xs.length, by simp, Nat.zero_le _, Ex.new hD, fun _ => Dl, upd_same, fun _ h => by omega, fun _ _ h => by omega⟩, ?_⟩
  rintro i m H' ⟨rfl, hi, ex, g, g1, g2, g3⟩
  have hq : SqT K H' a xs := st_of (ex _ _ hx1)
  by_cases hlt : i < xs.length
  · refine .inr ⟨W.goes i H' hlt hq, fun H'' => i + 1 ≤ xs.length ∧ Ex H1 H'' ∧ ∃ g : Nat → Addr, H'' Dl = some (.lst ((List.range (i + 1)).map fun i => .ref (g i))) ∧ (∀ i2, i2 < i + 1 → H1 (g i2) = none ∧ g i2 ≠ Dl ∧ H'' (g i2) = some (o i2)) ∧ ∀ i2 j2, i2 < i + 1 → j2 < i + 1 → g i2 = g j2 → i2 = j2,
      fun H'' ⟨a, b⟩ => ⟨xs.length - (i + 1), by omega, rfl, a, b⟩, fun x H4 y => ?_⟩
    obtain ⟨rfl, hxi⟩ := W.yields i H' x H4 hlt hq y
    refine ⟨hw _, ?_⟩
    simp only [tYes, ↓reduceIte]
    refine he i x H4 hxi _ fun p hp => ?_
    have npD : Dl ≠ p := ne_of_none g1 hp
    have hnew := Ex.new (o := o i) hp
    have npg : ∀ i2, i2 < i → g i2 ≠ p := fun i2 h2 => ne_of_none (g2 i2 h2).2.2 hp
    refine ⟨_, hnew _ _ g1, sz_lt (by simp; omega), hlt, (ex.trans hnew).mut hD, setN g i p, ?_, fun i2 h2 => ?_, fun i2 j2 h2 hj2 => ?_⟩
    · rw [upd_same, List.range_succ, List.map_append]
      congr 2
      congr 1
      · refine List.map_congr_left fun i2 h2 => ?_
        rw [setN_ne (by have := List.mem_range.1 h2; omega)]
      · simp [setN_same]
    · by_cases z : i2 = i
      · subst z
        rw [setN_same]
        exact ⟨fresh_back ex hp, npD.symm, (upd_ne npD.symm).trans upd_same⟩
      · rw [setN_ne z]
        obtain ⟨x1, x2, x3⟩ := g2 i2 (by omega)
        exact ⟨x1, x2, (upd_ne x2).trans (hnew _ _ x3)⟩
    · by_cases z : i2 = i
      · by_cases z2 : j2 = i
        · intro _
          omega
        · rw [z, setN_same, setN_ne z2]
          exact fun e => absurd e.symm (npg j2 (by omega))
      · by_cases z2 : j2 = i
        · rw [z2, setN_same, setN_ne z]
          exact fun e => absurd e (npg i2 (by omega))
        · rw [setN_ne z, setN_ne z2]
          exact g3 i2 j2 (by omega) (by omega)
  · have hn : i = xs.length := by omega
    subst hn
    exact .inl ⟨W.stops H' hq, k Dl g H' ⟨fresh_back e1 hD, e1.trans ex, g1, fun i hi => ⟨fresh_back e1 (g2 i hi).1, (g2 i hi).2⟩, g3⟩⟩
theorem s_lcV {a : Addr} {xs : List V} {j : Nat} {vs : List Nat} {f : Nat → V} {Q : VK} (h : Ev tl σ H (.ref a)) (hx : H a = some (.tup xs)) (hz : xs.length ≤ 40000) (hw : ∀ x, wipe ((wipe σ vs).set j (some x)) vs = wipe σ vs)
    (he : ∀ (i : Nat) (x : V), xs[i]? = some x → Ev te ((wipe σ vs).set j (some x)) H (f i)) (k : ∀ Dl H2, H Dl = none → Ex H H2 → H2 Dl = some (.lst ((List.range xs.length).map f)) → Q (.ref Dl) H2) : tLc (iTup K tl) (gName j) tYes te vs σ H Q := by
  refine h H (Ex.refl H) _ fun H1 e1 => ⟨a, rfl, ⟨xs, st_of (e1 _ _ hx)⟩, fun Dl hD => ?_⟩
  have W := walk_tup (K := K) (a := a) (xs := xs)
  have hx1 : H1 a = some (.tup xs) := e1 _ _ hx
  refine ⟨fun i m H' => m = xs.length - i ∧ i ≤ xs.length ∧ Ex H1 H' ∧ H' Dl = some (.lst ((List.range i).map f)), ⟨xs.length, by simp, Nat.zero_le _, Ex.new hD, upd_same⟩, ?_⟩
  rintro i m H' ⟨rfl, hi, ex, g1⟩
  have hq : SqT K H' a xs := st_of (ex _ _ hx1)
  by_cases hlt : i < xs.length
  · refine .inr ⟨W.goes i H' hlt hq, fun H'' => i + 1 ≤ xs.length ∧ Ex H1 H'' ∧ H'' Dl = some (.lst ((List.range (i + 1)).map f)), fun H'' ⟨a, b⟩ => ⟨xs.length - (i + 1), by omega, rfl, a, b⟩, fun x H4 y => ?_⟩
    obtain ⟨rfl, hxi⟩ := W.yields i H' x H4 hlt hq y
    refine ⟨hw _, ?_⟩
    simp only [tYes, ↓reduceIte]
    refine he i x hxi H4 (e1.trans ex) _ fun H5 e5 => ?_
    refine ⟨_, e5 _ _ g1, sz_lt (by simp; omega), hlt, (ex.trans e5).mut hD, ?_⟩
    rw [upd_same, List.range_succ, List.map_append]
    rfl
  · have hn : i = xs.length := by omega
    subst hn
    exact .inl ⟨W.stops H' hq, k Dl H' (fresh_back e1 hD) (e1.trans ex) g1⟩
/-- self.f = e, e new -/
theorem q_fldC {R : V → Hp → Prop} {i : Nat} {f : Str} {a C dx : Addr} {fs : List (Str × V)} (h : ∀ Q : VK, (∀ v H2, R v H2 → Q v H2) → te σ H Q) (hi : σ[i]? = some (some (.ref a))) (ha : ∀ v H2, R v H2 → H2 a = some (.ins C dx fs)) (c : Cls K C) (na : NoAttr K C f) (hl : fs.length < 1000)
    (k : ∀ v H2, R v H2 → tz D σ (upd H2 a (.ins C dx (putF f v fs)))) : tSeq (sFld K (tVar i) te f) tz D σ H :=
  h _ fun v H2 r => ⟨_, hi, a, C, dx, fs, rfl, ha v H2 r, c, na, hl, k v H2 r⟩
theorem s_fldC {R : V → Hp → Prop} {i : Nat} {f : Str} {a C dx : Addr} {fs : List (Str × V)} (h : ∀ Q : VK, (∀ v H2, R v H2 → Q v H2) → te σ H Q) (hi : σ[i]? = some (some (.ref a))) (ha : ∀ v H2, R v H2 → H2 a = some (.ins C dx fs)) (c : Cls K C) (na : NoAttr K C f) (hl : fs.length < 1000)
    (k : ∀ v H2, R v H2 → D.nx σ (upd H2 a (.ins C dx (putF f v fs)))) : sFld K (tVar i) te f D σ H :=
  h _ fun v H2 r => ⟨_, hi, a, C, dx, fs, rfl, ha v H2 r, c, na, hl, k v H2 r⟩
end
def S0 (d : Nat → PyData) : NS := ⟨[], fun _ => true, fun _ => [], fun i _ => d i, fun _ _ _ => false, 0⟩
def sp_State_init (W : Wd) : GS := fun vs H Q => ∃ (x fo ia fa dx : Addr) (n : Nat) (d : Nat → PyData) (fs : List V), vs = [.ref x, .ref fo, .ref ia, .ref fa] ∧ H x = some (.ins (cS W) dx []) ∧ H fa = some (.tup fs) ∧ fs.length = n ∧ n ≤ 5 ∧ (∀ (i : Nat) (v : V), fs[i]? = some v → IsD H v (d i)) ∧
  ∀ H' c, Fr (fun a => a = x) H H' → H' x = some (.ins (cS W) dx (stF fo ia c.bag c.up c.notes c.missed c.kept)) → (∀ a, c.Fp n a → H a = none) → NetAt H' n c (S0 d) → Q .non H'
abbrev N_State_init : List Str := ["self", "folk", "inputs", "firsts", "first"]
theorem sc_State_init : FnScope N_State_init ["self", "folk", "inputs", "firsts"] (defScope s_State_init) := ⟨rfl, rfl, rfl, by decide +kernel, rfl, by decide +kernel, by decide +kernel⟩
theorem C_State {W : Wd} (T : TopW W) : Mak W "State" (He.ga W.K "State") 1 (sp_State_init W) := by
  refine mak_mk T (d := d_State_init) (ps := ["self", "folk", "inputs", "firsts"]) 22 62 60 rfl rfl rfl rfl rfl rfl fun f fd F => ⟨fng_of F sc_State_init (fun vs H Q h => ?_) (fun cdv A outer s H vs Q hr hg h => ?_), F.bindsN fun _ _ _ _ _ _ us hl => match us, hl with | [_, _, _, _], _ => rfl⟩
  · obtain ⟨x, fo, ia, fa, dx, n, d, fs, h0, hx, hfa, hn, hn5, hd, q⟩ := h
    first | rfl | (subst h0; rfl)
  · have hu := hu_of hr
    have nd := sc_State_init.nd
    obtain ⟨x, fo, ia, fa, dx, n, d, fs, h0, hx, hfa, hn, hn5, hd, q⟩ := h
    try subst h0
    refine ⟨_, (pss_cons (ps_fld (pv 0) (pv 1) rfl) (pss_cons (ps_fld (pv 0) (pv 2) rfl) (pss_cons (ps_fld (pv 0) (pe_lst pa_nil) rfl) (pss_cons (ps_fld (pv 0) (pe_lc (own := [("first", 4)]) rfl nd (pi_tupk (K := W.K) rfl (pv 3)) (blkOk_by (own := [("first", 4)]) (N := N_State_init) (sc := defScope s_State_init) (by decide +kernel)) (fun _ _ _ _ _ => (pg_name (i := 4) nd rfl (Or.inl rfl))) (fun _ _ _ _ _ => pts_nil) (fun _ _ _ _ _ => pe_bl)) rfl) (pss_cons (ps_fld (pv 0) (pe_lc (own := [("first", 4)]) rfl nd (pi_tupk (K := W.K) rfl (pv 3)) (blkOk_by (own := [("first", 4)]) (N := N_State_init) (sc := defScope s_State_init) (by decide +kernel)) (fun _ _ _ _ _ => (pg_name (i := 4) nd rfl (Or.inl rfl))) (fun _ _ _ _ _ => pts_nil) (fun _ _ _ _ _ => (pe_lst (pa_cons (pv 4) pa_nil)))) rfl) (pss_cons (ps_fld (pv 0) (pe_lc (own := [("first", 4)]) rfl nd (pi_tupk (K := W.K) rfl (pv 3)) (blkOk_by (own := [("first", 4)]) (N := N_State_init) (sc := defScope s_State_init) (by decide +kernel)) (fun _ _ _ _ _ => (pg_name (i := 4) nd rfl (Or.inl rfl))) (fun _ _ _ _ _ => pts_nil) (fun _ _ _ _ _ => (pe_lst pa_nil))) rfl) (pss_one (ps_fld (pv 0) (pe_lc (own := [("first", 4)]) rfl nd (pi_tupk (K := W.K) rfl (pv 3)) (blkOk_by (own := [("first", 4)]) (N := N_State_init) (sc := defScope s_State_init) (by decide +kernel)) (fun _ _ _ _ _ => (pg_name (i := 4) nd rfl (Or.inl rfl))) (fun _ _ _ _ _ => pts_nil) (fun _ _ _ _ _ => pe_dnewT)) rfl)))))))), ?_⟩
    subst hn
    have kp : ∀ {H1 H2 : Hp} {o : HO}, Ex H1 H2 → Fr (fun a => a = x) H1 (upd H2 x o) := fun e a u h z => (upd_ne z).trans (e _ _ h)
    have nfa : fa ≠ x := fun z => by rw [z, hx] at hfa; cases hfa
    refine q_fldC (R := fun v H2 => v = .ref fo ∧ H2 = H) (fun Q k => ⟨_, rfl, k _ _ ⟨rfl, rfl⟩⟩) rfl (fun v H2 r => by rw [r.2]; exact hx) T.cls_State T.noat_State_folk (by decide) fun v H1 r => ?_
    obtain ⟨rfl, rfl⟩ := r
    have f1 := kp (o := .ins (cS W) dx (putF "folk" (.ref fo) [])) (Ex.refl H1)
    have x1 : upd H1 x (.ins (cS W) dx (putF "folk" (.ref fo) [])) x = _ := upd_same
    generalize hA : upd H1 x (.ins (cS W) dx (putF "folk" (.ref fo) [])) = A1 at f1 x1 ⊢
    refine q_fldC (R := fun v H2 => v = .ref ia ∧ H2 = A1) (fun Q k => ⟨_, rfl, k _ _ ⟨rfl, rfl⟩⟩) rfl (fun v H2 r => by rw [r.2]; exact x1) T.cls_State T.noat_State_inputs (Nat.lt_of_le_of_lt (lenP (k := 0) (Nat.le_refl _)) (by decide)) fun v H2 r => ?_
    obtain ⟨rfl, rfl⟩ := r
    have f2 := f1.trans (kp (o := .ins (cS W) dx (putF "inputs" (.ref ia) (putF "folk" (.ref fo) []))) (Ex.refl H2))
    have x2 : upd H2 x (.ins (cS W) dx (putF "inputs" (.ref ia) (putF "folk" (.ref fo) []))) x = _ := upd_same
    generalize upd H2 x (.ins (cS W) dx (putF "inputs" (.ref ia) (putF "folk" (.ref fo) []))) = A2 at f2 x2 ⊢
    -- bag
    refine q_fldC (R := fun v H2 => ∃ b, v = .ref b ∧ A2 b = none ∧ H2 = upd A2 b (.lst [])) (fun Q k => ⟨Nat.zero_le _, fun p hp => k _ _ ⟨p, rfl, hp, rfl⟩⟩) rfl (fun v H2 r => by obtain ⟨b, _, hb, rfl⟩ := r; exact Ex.new hb _ _ x2) T.cls_State T.noat_State_bag (Nat.lt_of_le_of_lt (lenP (lenP (k := 0) (Nat.le_refl _))) (by decide)) fun v H3 r => ?_
    obtain ⟨b, rfl, hb, rfl⟩ := r
    have nbx : b ≠ x := (ne_of_none x2 hb).symm
    have f3 := kp (o := .ins (cS W) dx (putF "bag" (.ref b) (putF "inputs" (.ref ia) (putF "folk" (.ref fo) [])))) (Ex.new (o := .lst []) hb)
    have x3 : upd (upd A2 b (.lst [])) x (.ins (cS W) dx (putF "bag" (.ref b) (putF "inputs" (.ref ia) (putF "folk" (.ref fo) [])))) x = _ := upd_same
    have b3 : upd (upd A2 b (.lst [])) x (.ins (cS W) dx (putF "bag" (.ref b) (putF "inputs" (.ref ia) (putF "folk" (.ref fo) [])))) b = some (.lst []) := (upd_ne nbx).trans upd_same
    generalize upd (upd A2 b (.lst [])) x (.ins (cS W) dx (putF "bag" (.ref b) (putF "inputs" (.ref ia) (putF "folk" (.ref fo) [])))) = A3 at f3 x3 b3 ⊢
    have fa3 : A3 fa = some (.tup fs) := (f2.trans f3) _ _ hfa nfa
    -- are_up
    refine q_fldC (R := fun v H2 => ∃ u, v = .ref u ∧ A3 u = none ∧ Ex A3 H2 ∧ H2 u = some (.lst ((List.range fs.length).map fun _ => .bl true))) (fun Q k => ?_) rfl (fun v H2 r => by obtain ⟨b, _, _, e, _⟩ := r; exact e _ _ x3) T.cls_State T.noat_State_are_up (Nat.lt_of_le_of_lt (lenP (lenP (lenP (k := 0) (Nat.le_refl _)))) (by decide)) fun v H4 r => ?_
    · exact s_lcV (f := fun _ => .bl true) (ev_var rfl) fa3 (by omega) (fun _ => rfl) (fun i y hy => ev_c) fun D2 H5 h1 h2 h3 => k _ _ ⟨D2, rfl, h1, h2, h3⟩
    obtain ⟨u, rfl, hu0, eu, hu⟩ := r
    have nux : u ≠ x := (ne_of_none x3 hu0).symm
    have nub : u ≠ b := (ne_of_none b3 hu0).symm
    have kp4 := kp (o := .ins (cS W) dx (putF "are_up" (.ref u) (putF "bag" (.ref b) (putF "inputs" (.ref ia) (putF "folk" (.ref fo) []))))) eu
    have x4 : upd H4 x (.ins (cS W) dx (putF "are_up" (.ref u) (putF "bag" (.ref b) (putF "inputs" (.ref ia) (putF "folk" (.ref fo) []))))) x = _ := upd_same
    have u4 : upd H4 x (.ins (cS W) dx (putF "are_up" (.ref u) (putF "bag" (.ref b) (putF "inputs" (.ref ia) (putF "folk" (.ref fo) []))))) u = _ := (upd_ne nux).trans hu
    generalize upd H4 x (.ins (cS W) dx (putF "are_up" (.ref u) (putF "bag" (.ref b) (putF "inputs" (.ref ia) (putF "folk" (.ref fo) []))))) = A4 at kp4 x4 u4 ⊢
    have b4 := kp4 _ _ b3 nbx
    have fa4 := kp4 _ _ fa3 nfa
    -- notes
    refine q_fldC (R := fun v H2 => ∃ D2 g, v = .ref D2 ∧ NewL fs.length (fun i => .lst [fs.getD i .non]) A4 D2 g H2) (fun Q k => s_lcN (ev_var rfl) fa4 (by omega) (fun _ => rfl) (fun i y H1 hy Q k => ⟨y, rfl, by show 1 ≤ sizeLine; decide, fun p hp => by
      have e : fs.getD i .non = y := by rw [List.getD_eq_getElem?_getD, hy]; rfl
      have := k p hp
      rw [e] at this
      exact this⟩) fun D2 g H2 nl => k _ _ ⟨D2, g, rfl, nl⟩) rfl (fun v H2 r => by obtain ⟨_, _, _, nl⟩ := r; exact nl.ex _ _ x4) T.cls_State T.noat_State_notes (Nat.lt_of_le_of_lt (lenP (lenP (lenP (lenP (k := 0) (Nat.le_refl _))))) (by decide)) fun v H5 r => ?_
    obtain ⟨D5, g5, rfl, nl5⟩ := r
    have nD5 : D5 ≠ x := (ne_of_none x4 nl5.fresh).symm
    have ng5 : ∀ i, i < fs.length → g5 i ≠ x := fun i hi => (ne_of_none x4 (nl5.fr i hi).1).symm
    have kp5 := kp (o := .ins (cS W) dx (putF "notes" (.ref D5) (putF "are_up" (.ref u) (putF "bag" (.ref b) (putF "inputs" (.ref ia) (putF "folk" (.ref fo) [])))))) nl5.ex
    have x5 : upd H5 x (.ins (cS W) dx (putF "notes" (.ref D5) (putF "are_up" (.ref u) (putF "bag" (.ref b) (putF "inputs" (.ref ia) (putF "folk" (.ref fo) [])))))) x = _ := upd_same
    have l5 : upd H5 x (.ins (cS W) dx (putF "notes" (.ref D5) (putF "are_up" (.ref u) (putF "bag" (.ref b) (putF "inputs" (.ref ia) (putF "folk" (.ref fo) [])))))) D5 = _ := (upd_ne nD5).trans nl5.l
    have i5 : ∀ i, i < fs.length → upd H5 x (.ins (cS W) dx (putF "notes" (.ref D5) (putF "are_up" (.ref u) (putF "bag" (.ref b) (putF "inputs" (.ref ia) (putF "folk" (.ref fo) [])))))) (g5 i) = some (.lst [fs.getD i .non]) := fun i hi => (upd_ne (ng5 i hi)).trans (nl5.fr i hi).2.2
    generalize upd H5 x (.ins (cS W) dx (putF "notes" (.ref D5) (putF "are_up" (.ref u) (putF "bag" (.ref b) (putF "inputs" (.ref ia) (putF "folk" (.ref fo) [])))))) = A5 at kp5 x5 l5 i5 ⊢
    have b5 := kp5 _ _ b4 nbx
    have u5 := kp5 _ _ u4 nux
    have fa5 := kp5 _ _ fa4 nfa
    -- missed
    refine q_fldC (R := fun v H2 => ∃ D2 g, v = .ref D2 ∧ NewL fs.length (fun i => .lst []) A5 D2 g H2) (fun Q k => s_lcN (ev_var rfl) fa5 (by omega) (fun _ => rfl) (fun i y H1 hy Q k => ⟨Nat.zero_le _, fun p hp => k p hp⟩) fun D2 g H2 nl => k _ _ ⟨D2, g, rfl, nl⟩) rfl (fun v H2 r => by obtain ⟨_, _, _, nl⟩ := r; exact nl.ex _ _ x5) T.cls_State T.noat_State_missed (Nat.lt_of_le_of_lt (lenP (lenP (lenP (lenP (lenP (k := 0) (Nat.le_refl _)))))) (by decide)) fun v H6 r => ?_
    obtain ⟨D6, g6, rfl, nl6⟩ := r
    have nD6 : D6 ≠ x := (ne_of_none x5 nl6.fresh).symm
    have ng6 : ∀ i, i < fs.length → g6 i ≠ x := fun i hi => (ne_of_none x5 (nl6.fr i hi).1).symm
    have kp6 := kp (o := .ins (cS W) dx (putF "missed" (.ref D6) (putF "notes" (.ref D5) (putF "are_up" (.ref u) (putF "bag" (.ref b) (putF "inputs" (.ref ia) (putF "folk" (.ref fo) []))))))) nl6.ex
    have x6 : upd H6 x (.ins (cS W) dx (putF "missed" (.ref D6) (putF "notes" (.ref D5) (putF "are_up" (.ref u) (putF "bag" (.ref b) (putF "inputs" (.ref ia) (putF "folk" (.ref fo) []))))))) x = _ := upd_same
    have l6 : upd H6 x (.ins (cS W) dx (putF "missed" (.ref D6) (putF "notes" (.ref D5) (putF "are_up" (.ref u) (putF "bag" (.ref b) (putF "inputs" (.ref ia) (putF "folk" (.ref fo) []))))))) D6 = _ := (upd_ne nD6).trans nl6.l
    have i6 : ∀ i, i < fs.length → upd H6 x (.ins (cS W) dx (putF "missed" (.ref D6) (putF "notes" (.ref D5) (putF "are_up" (.ref u) (putF "bag" (.ref b) (putF "inputs" (.ref ia) (putF "folk" (.ref fo) []))))))) (g6 i) = some (.lst []) := fun i hi => (upd_ne (ng6 i hi)).trans (nl6.fr i hi).2.2
    generalize upd H6 x (.ins (cS W) dx (putF "missed" (.ref D6) (putF "notes" (.ref D5) (putF "are_up" (.ref u) (putF "bag" (.ref b) (putF "inputs" (.ref ia) (putF "folk" (.ref fo) []))))))) = A6 at kp6 x6 l6 i6 ⊢
    have b6 := kp6 _ _ b5 nbx
    have u6 := kp6 _ _ u5 nux
    have fa6 := kp6 _ _ fa5 nfa
    have l56 := kp6 _ _ l5 nD5
    have i56 := fun i hi => kp6 _ _ (i5 i hi) (ng5 i hi)
    -- kept
    refine s_fldC (R := fun v H2 => ∃ D2 g, v = .ref D2 ∧ NewL fs.length (fun i => .dT []) A6 D2 g H2) (fun Q k => s_lcN (ev_var rfl) fa6 (by omega) (fun _ => rfl) (fun i y H1 hy Q k => fun p hp => k p hp) fun D2 g H2 nl => k _ _ ⟨D2, g, rfl, nl⟩) rfl (fun v H2 r => by obtain ⟨_, _, _, nl⟩ := r; exact nl.ex _ _ x6) T.cls_State T.noat_State_kept (Nat.lt_of_le_of_lt (lenP (lenP (lenP (lenP (lenP (lenP (k := 0) (Nat.le_refl _))))))) (by decide)) fun v H7 r => ?_
    obtain ⟨D7, g7, rfl, nl7⟩ := r
    have nD7 : D7 ≠ x := (ne_of_none x6 nl7.fresh).symm
    have ng7 : ∀ i, i < fs.length → g7 i ≠ x := fun i hi => (ne_of_none x6 (nl7.fr i hi).1).symm
    have kp7 := kp (o := .ins (cS W) dx (stF fo ia b u D5 D6 D7)) nl7.ex
    have x7 : upd H7 x (.ins (cS W) dx (stF fo ia b u D5 D6 D7)) x = _ := upd_same
    have l7 : upd H7 x (.ins (cS W) dx (stF fo ia b u D5 D6 D7)) D7 = _ := (upd_ne nD7).trans nl7.l
    have i7 : ∀ i, i < fs.length → upd H7 x (.ins (cS W) dx (stF fo ia b u D5 D6 D7)) (g7 i) = some (.dT []) := fun i hi => (upd_ne (ng7 i hi)).trans (nl7.fr i hi).2.2
    show Q .non (upd H7 x (.ins (cS W) dx (stF fo ia b u D5 D6 D7)))
    generalize upd H7 x (.ins (cS W) dx (stF fo ia b u D5 D6 D7)) = A7 at kp7 x7 l7 i7 ⊢
    have fz : ∀ {A : Hp} {p : Addr}, Fr (fun a => a = x) H1 A → A p = none → p ≠ x → H1 p = none := fun {A p} f h n => by
      cases z : H1 p with
      | none => rfl
      | some o => rw [f _ _ z n] at h; cases h
    have f23 := f2.trans f3
    have f24 := f23.trans kp4
    have f25 := f24.trans kp5
    have f26 := f25.trans kp6
    refine q A7 ⟨b, u, D5, D6, D7, g5, g6, g7⟩ (f26.trans kp7) x7 (fun a h => ?_) ⟨?_, ⟨[], kp7 _ _ b6 nbx, rfl, fun i v l y => by simp at y⟩, kp7 _ _ u6 nux, kp7 _ _ l56 nD5, kp7 _ _ l6 nD6, l7, fun i hi => ?_, fun i hi => kp7 _ _ (i6 i hi) (ng6 i hi), fun i hi => ⟨[], i7 i hi, Nat.le_refl _, fun _ h => by simp at h, fun _ _ _ _ => rfl, fun _ _ _ _ h => by simp [valV_nil] at h⟩⟩
    · rcases h with rfl | rfl | rfl | rfl | rfl | ⟨i, hi, rfl | rfl | rfl⟩
      · exact fz f2 hb nbx
      · exact fz f23 hu0 nux
      · exact fz f24 nl5.fresh nD5
      · exact fz f25 nl6.fresh nD6
      · exact fz f26 nl7.fresh nD7
      · exact fz f24 (nl5.fr i hi).1 (ng5 i hi)
      · exact fz f25 (nl6.fr i hi).1 (ng6 i hi)
      · exact fz f26 (nl7.fr i hi).1 (ng7 i hi)
    · refine ro_mk nub (ne_of_none b4 nl5.fresh).symm (ne_of_none u4 nl5.fresh).symm (ne_of_none b5 nl6.fresh).symm (ne_of_none u5 nl6.fresh).symm (ne_of_none l5 nl6.fresh).symm (ne_of_none b6 nl7.fresh).symm (ne_of_none u6 nl7.fresh).symm (ne_of_none l56 nl7.fresh).symm (ne_of_none l6 nl7.fresh).symm
        (fun i hi => ⟨(ne_of_none b4 (nl5.fr i hi).1).symm, (ne_of_none u4 (nl5.fr i hi).1).symm, (nl5.fr i hi).2.1, ne_of_none (i5 i hi) nl6.fresh, ne_of_none (i56 i hi) nl7.fresh⟩)
        (fun i hi => ⟨(ne_of_none b5 (nl6.fr i hi).1).symm, (ne_of_none u5 (nl6.fr i hi).1).symm, (ne_of_none l5 (nl6.fr i hi).1).symm, (nl6.fr i hi).2.1, ne_of_none (i6 i hi) nl7.fresh⟩)
        (fun i hi => ⟨(ne_of_none b6 (nl7.fr i hi).1).symm, (ne_of_none u6 (nl7.fr i hi).1).symm, (ne_of_none l56 (nl7.fr i hi).1).symm, (ne_of_none l6 (nl7.fr i hi).1).symm, (nl7.fr i hi).2.1⟩)
        (fun i j hi hj => (ne_of_none (i5 j hj) (nl6.fr i hi).1).symm) (fun i j hi hj => (ne_of_none (i56 j hj) (nl7.fr i hi).1).symm) (fun i j hi hj => (ne_of_none (i6 j hj) (nl7.fr i hi).1).symm) nl5.inj nl6.inj nl7.inj
    · refine ⟨_, kp7 _ _ (i56 i hi) (ng5 i hi), rfl, fun r v y => ?_⟩
      have hr : r = 0 := by
        have := (List.getElem?_eq_some_iff.1 y).1
        simp at this
        exact this
      subst hr
      simp at y
      subst y
      have hf : fs[i]? = some fs[i] := by simp [hi]
      rw [hf]
      refine (hd i _ hf).up fun a ys ha => (f26.trans kp7) a _ ha fun z => ?_
      rw [z, hx] at ha
      cases ha
end Kn

set_option Elab.async false
set_option linter.all false
set_option maxRecDepth 100000
set_option maxHeartbeats 4000000
/-! the package's nets: begun, made -/
namespace Kn
open PySem PySem.Spec PyProof.Rows L2 Evl
local macro_rules | `(tactic| walk_at "ev") => `(tactic| first
  | ((with_reducible apply ev_var); exact rfl)
  | with_reducible exact ev_c
  | with_reducible exact ea_nil
  | ((with_reducible apply ea_cons) <;> walk_at "ev")
  | ((with_reducible apply ev_int); walk_at "ev")
  | ((with_reducible apply ev_op) <;> walk_at "ev")
  | ((with_reducible apply ev_un) <;> walk_at "ev")
  | with_reducible exact rv_I0
  | with_reducible exact rv_isN
  | ((with_reducible apply rv_eq); exact rfl)
  | ((with_reducible apply rv_ne); exact rfl)
  | with_reducible exact ru_neg
  | ((with_reducible apply rv_I); first | exact Or.inl (by decide) | decide | assumption | skip)
  | ((with_reducible apply rv_ixL) <;> first | assumption | exact rfl | skip)
  | ((with_reducible apply rv_ixT) <;> first | assumption | exact rfl | skip)
  | ((with_reducible apply ev_fld) <;> first | walk_at "ev" | assumption | exact rfl | skip)
  | ((with_reducible apply ev_len) <;> first | walk_at "ev" | assumption | skip)
  | ((with_reducible apply ev_lenT) <;> first | walk_at "ev" | assumption | skip)
  | exact rv_eq rfl
  | exact rv_ne rfl
  | assumption
  | skip)
def begUp (s : Sh) (S : NS) (n : Nat) : Nat → NS
  | 0 => S
  | i + 1 => if 0 < s.rounds then wroteS (begUp s S n i) n i 0 else begUp s S n i
abbrev dBeg (s : Sh) (ins : List Int) : Nat → PyData := fun i => beginD s i (ins.getD i 0)
def begS (s : Sh) (ins : List Int) : NS := begUp s (S0 (dBeg s ins)) ins.length ins.length
theorem begUp_same (s : Sh) (S : NS) (n : Nat) : ∀ i, (begUp s S n i).miss = S.miss ∧ (begUp s S n i).t = S.t
  | 0 => ⟨rfl, rfl⟩
  | i + 1 => by
    unfold begUp
    split
    · exact begUp_same s S n i
    · exact begUp_same s S n i
theorem begUp_done {s : Sh} {S : NS} {n i : Nat} (j : Nat) : (begUp s S n i).done j = S.done j := by
  show ((begUp s S n i).miss j).length = _
  rw [(begUp_same s S n i).1]
  rfl
theorem begUp_len {s : Sh} {S : NS} {n : Nat} (hn : n ≤ 5) : ∀ i, (begUp s S n i).bag.length ≤ S.bag.length + 5 * i
  | 0 => Nat.le_refl _
  | i + 1 => by
    have h := begUp_len (s := s) (S := S) hn i
    unfold begUp
    split
    · show ((begUp s S n i).bag ++ lets n i 0).length ≤ _
      have := lets_len (n := n) (me := i) (r := 0) hn
      rw [List.length_append]
      omega
    · omega
theorem beg_inv {s : Sh} {ins : List Int} (hn : 0 < ins.length) (hn5 : ins.length ≤ 5) (io : ∀ i, i < ins.length → (ins.getD i 0).natAbs < 2 ^ 64) : ∀ i, i ≤ ins.length → InvS s ins.length ins (begUp s (S0 (dBeg s ins)) ins.length i)
  | 0, _ => ⟨fun l h => by simp [begUp, S0] at h, fun _ _ _ h => by simp [begUp, S0] at h, fun _ _ => Nat.zero_le _, fun _ _ => rfl, fun _ _ _ _ h => by simp [begUp, S0] at h, fun _ _ _ h => by simp [begUp, S0] at h, fun me r hm hr => by
      have : r = 0 := by
        have hr : r ≤ ([] : List (Option Nat)).length := hr
        simpa using hr
      subst this
      exact begin_ok (by omega) (io me hm), Nat.zero_le _⟩
  | i + 1, h => by
    have ih := beg_inv (s := s) hn hn5 io i (by omega)
    have hl := begUp_len (s := s) (S := S0 (dBeg s ins)) hn5 (i + 1)
    have ht := (begUp_same s (S0 (dBeg s ins)) ins.length i).2
    unfold begUp at hl ⊢
    split
    · rename_i hr
      rw [if_pos hr] at hl
      have := wrote_inv (T := (begUp s (S0 (dBeg s ins)) ins.length i).t) ih (me := i) (r := 0) (by omega) (Nat.zero_le _) hr (by have : (S0 (dBeg s ins)).bag.length = 0 := rfl; omega)
      exact this
    · exact ih
def sp_begun (W : Wd) : GS := fun vs H Q => ∃ (fo ia : Addr) (s : Sh) (ins : List Int), vs = [.ref fo, .ref ia] ∧ FolkAt W H fo s ∧ H ia = some (.tup (ins.map V.int)) ∧ s.Ok ∧ 3 ≤ ins.length ∧ ins.length ≤ 5 ∧ (∀ i, i < ins.length → (ins.getD i 0).natAbs < 2 ^ 64) ∧
  ∀ H' st c Hs, Ex H H' → Ex H Hs → (∀ a, c.Fp ins.length a → H a = none) → NetW W Hs H' st c fo ia s ins (begS s ins) → Q (.ref st) H'
abbrev N_begun : List Str := ["folk", "inputs", "found", "me"]
theorem sc_begun : FnScope N_begun ["folk", "inputs"] (defScope s_begun) := ⟨rfl, rfl, rfl, by decide +kernel, rfl, by decide +kernel, by decide +kernel⟩
theorem C_begun {W : Wd} (T : TopW W) : Cal W "begun" 4 (sp_begun W) := by
  have C_State := C_State T
  have C_first_memories := C_first_memories T
  have C_has_rounds := C_has_rounds T
  have C_write := C_write T
  refine cal_mk T (d := d_begun) (ps := ["folk", "inputs"]) 27 25 rfl rfl rfl rfl rfl fun f fd F => ⟨fng_of F sc_begun (fun vs H Q h => ?_) (fun cdv A outer s H vs Q hr hg h => ?_), F.bindsN fun _ _ _ _ _ _ us hl => match us, hl with | [_, _], _ => rfl⟩
  · obtain ⟨fo, ia, s, ins, h0, hf, hi, sok, n3, n5, io, q⟩ := h
    first | rfl | (subst h0; rfl)
  · have hu := hu_of hr
    have nd := sc_begun.nd
    obtain ⟨fo, ia, s, ins, h0, hf, hi, sok, n3, n5, io, q⟩ := h
    try subst h0
    refine ⟨_, (pss_cons (ps_set (i := 2) nd rfl (Or.inl rfl) (pe_mkg C_State rfl hr (by decide) hg rfl (pa_cons (pv 0) (pa_cons (pv 1) (pa_cons (pe_cal C_first_memories rfl hr (by decide) hg rfl (pa_cons (pv 0) (pa_cons (pv 1) pa_nil))) pa_nil))))) (pss_cons (ps_for PassesOwn.never rfl (pi_range1 rfl T.free_range (pa_cons (pe_callB (cr_lenk (K := W.K) rfl) rfl T.free_len boot_len (pa_cons (pv 1) pa_nil)) pa_nil)) (pg_name (i := 3) nd rfl (Or.inl rfl)) (pss_one (ps_if (pt_val (pe_cal C_has_rounds rfl hr (by decide) hg rfl (pa_cons (pv 2) (pa_cons (pv 3) pa_nil)))) (pss_one (ps_expr (pe_cal C_write rfl hr (by decide) hg rfl (pa_cons (pv 2) (pa_cons (pv 3) (pa_cons pe_int pa_nil)))))) pss_nil))) (pss_one (ps_ret (pv 2))))), ?_⟩
    have len : (ins.map V.int).length = ins.length := List.length_map _
    refine q_of ((eap_cons (M := .eq (.ref fo)) (ep_ev (ev_var rfl)) (eap_cons (M := .eq (.ref ia)) (ep_ev (ev_var rfl)) (eap_cons (M := MP.tup ins.length fun i => MP.isD (dBeg s ins i)) (ep_cal (by walk_at "ev") fun H1 e Q k => ⟨fo, ia, s, ins, rfl, hf.ex e, e _ _ hi, n5, k⟩) eap_nil))) H (Ex.refl H) _ fun vs H1 e1 p => fun x dx hx hdx hne => ?_)
    obtain ⟨_, _, rfl, rfl, _, _, rfl, rfl, _, _, rfl, ⟨fa, fs, rfl, hfa, hfl, hfd⟩, rfl⟩ := p
    have ed : Ex H1 (upd H1 dx (.own x)) := Ex.new hdx
    have hx2 : upd H1 dx (.own x) x = none := (upd_ne hne.symm).trans hx
    have em : Ex H1 (upd (upd H1 dx (.own x)) x (.ins (He.ga W.K "State") dx [])) := ed.trans (Ex.new hx2)
    refine ⟨x, fo, ia, fa, dx, ins.length, dBeg s ins, fs, rfl, upd_same, em _ _ hfa, hfl, n5, fun i v hv => (hfd i v hv).ex em, fun H2 c f2 hst hfp N2 => ⟨rfl, ?_⟩⟩
    have fpn : ∀ a, c.Fp ins.length a → H1 a = none ∧ a ≠ x := fun a h => by
      have h0 := hfp a h
      exact ⟨fresh_back em h0, fun z => by rw [z, upd_same] at h0; cases h0⟩
    have exs : Ex H1 (upd H1 x (.ins (cS W) dx (stF fo ia c.bag c.up c.notes c.missed c.kept))) := Ex.new hx
    generalize hHs : upd H1 x (.ins (cS W) dx (stF fo ia c.bag c.up c.notes c.missed c.kept)) = Hs at exs
    have ex2 : Ex Hs H2 := fun a o h => by
      rw [← hHs] at h
      by_cases z : a = x
      · subst z
        rw [upd_same] at h
        rw [← h]
        exact hst
      · rw [upd_ne z] at h
        exact f2 a o (em _ _ h) z
    have NW : NetW W Hs H2 x c fo ia s ins (begUp s (S0 (dBeg s ins)) ins.length 0) := ⟨ex2, ⟨⟨dx, by rw [← hHs, upd_same]⟩, (hf.ex e1).ex exs, exs _ _ (e1 _ _ hi), sok, n3, n5, io⟩, fun a h => by rw [← hHs, upd_ne (fpn a h).2]; exact (fpn a h).1, N2⟩
    refine q_forR1 (n := (ins.length : Nat)) (ea_cons (by rw [← len]; exact ev_lenT (ev_var rfl) (st_of (ex2 _ _ NW.st.i))) ea_nil) ⟨by omega, by omega⟩ (fun i σ' H' => NetW W Hs H' x c fo ia s ins (begUp s (S0 (dBeg s ins)) ins.length i) ∧ ∃ y : Option V, σ' = [some (.ref fo), some (.ref ia), some (.ref x), y]) (fun H3 e3 => ⟨NW.exx e3, none, rfl⟩) ?_ ?_
    · rintro i σ' H3 hi3 ⟨NW3, _, rfl⟩
      have hi3 : i < ins.length := by omega
      have hd0 : (begUp s (S0 (dBeg s ins)) ins.length i).done i = 0 := begUp_done i
      refine s_when (b := decide ((begUp s (S0 (dBeg s ins)) ins.length i).done i < s.rounds)) (et_B (ev_calR (by walk_at "ev") fun H4 e Q k => ⟨x, c, fo, ia, s, ins, _, i, rfl, NW3.so.ex e, NW3.net.exx e, hi3, k⟩)) (fun h H4 e4 => ?_) fun h H4 e4 => ?_
      · have hlt := of_decide_eq_true h
        rw [hd0] at hlt
        refine s_mut (vs := [.ref x, .int i, .int (0 : Nat)]) (ea_cons (ev_var rfl) (ea_cons (ev_var rfl) (ea_cons ev_c ea_nil))) fun H5 e5 => ⟨Hs, x, c, fo, ia, s, ins, _, i, 0, rfl, (NW3.exx e4).exx e5, hi3, Nat.zero_le _, ?_, fun H6 f6 N6 => ⟨⟨?_, NW.st, NW.free, ?_⟩, _, rfl⟩⟩
        · have := begUp_len (s := s) (S := S0 (dBeg s ins)) n5 i
          have : (S0 (dBeg s ins)).bag.length = 0 := rfl
          omega
        · exact ((NW3.exx e4).exx e5).exf f6 fun a z => .inl z
        · unfold begUp
          rw [if_pos hlt]
          exact N6
      · have hge := of_decide_eq_false h
        rw [hd0] at hge
        refine ⟨?_, _, rfl⟩
        unfold begUp
        rw [if_neg hge]
        exact NW3.exx e4
    · rintro σ' H3 ⟨NW3, _, rfl⟩
      exact s_retE (v := .ref x) (ev_var rfl) fun v H4 e4 p => by
        have p : v = .ref x := p
        subst p
        exact q H4 x c Hs ((e1.trans exs).trans (NW3.ex.trans e4)) (e1.trans exs) (fun a h => fresh_back e1 (fpn a h).1) (NW3.exx e4)
theorem putF_ne {f : Str} {v : V} : ∀ {fs : List (Str × V)}, putF f v fs ≠ []
  | [] => fun h => by simp [putF] at h
  | (g, u) :: fs => fun h => by
    simp only [putF] at h
    split at h <;> simp at h
theorem upx {H : Hp} {x a C dx : Addr} {o u : HO} (hx : H x = some (.ins C dx [])) (h : H a = some u) (n : u ≠ .ins C dx []) : upd H x o a = some u := by
  rw [upd_ne]
  · exact h
  · intro z
    rw [z, hx] at h
    exact n (Option.some.inj h).symm
theorem StOk.putx {W : Wd} {H : Hp} {st x C dx : Addr} {c : Re} {fo ia : Addr} {s : Sh} {ins : List Int} {o : HO} (h : StOk W H st c fo ia s ins) (hx : H x = some (.ins C dx [])) : StOk W (upd H x o) st c fo ia s ins := by
  obtain ⟨dx2, f1, f2, f3, cc, sh, h1, ⟨c1, a1, b1⟩, ⟨c2, a2, b2⟩, ⟨c3, a3, b3⟩, h2, h3⟩ := h.f
  obtain ⟨dy, hst⟩ := h.st
  exact ⟨⟨dy, upx hx hst (fun e => putF_ne (HO.ins.inj e).2.2)⟩, ⟨dx2, f1, f2, f3, cc, sh, upx hx h1 (fun e => putF_ne (HO.ins.inj e).2.2), ⟨c1, upx hx a1 (fun e => nomatch e), upx hx b1 (fun e => nomatch e)⟩, ⟨c2, upx hx a2 (fun e => nomatch e), upx hx b2 (fun e => nomatch e)⟩, ⟨c3, upx hx a3 (fun e => nomatch e), upx hx b3 (fun e => nomatch e)⟩,
    upx hx h2 (fun e => nomatch e), upx hx h3 (fun e => nomatch e)⟩, upx hx h.i (fun e => nomatch e), h.ok, h.n3, h.n5, h.io⟩
def sp_Net_init (W : Wd) : GS := fun vs H Q => ∃ (x fo ia dx : Addr) (s : Sh) (ins : List Int), vs = [.ref x, .ref fo, .ref ia] ∧ H x = some (.ins (cN W) dx []) ∧ FolkAt W H fo s ∧ H ia = some (.tup (ins.map V.int)) ∧ s.Ok ∧ 3 ≤ ins.length ∧ ins.length ≤ 5 ∧ (∀ i, i < ins.length → (ins.getD i 0).natAbs < 2 ^ 64) ∧
  ∀ H' st c Hs, Fr (fun a => a = x) H H' → Fr (fun a => a = x) H Hs → NetI W Hs x st → (∀ a, c.Fp ins.length a → H a = none) → NetW W Hs H' st c fo ia s ins (begS s ins) → Q .non H'
abbrev N_Net_init : List Str := ["self", "folk", "inputs"]
theorem sc_Net_init : FnScope N_Net_init ["self", "folk", "inputs"] (defScope s_Net_init) := ⟨rfl, rfl, rfl, by decide +kernel, rfl, by decide +kernel, by decide +kernel⟩
theorem C_Net {W : Wd} (T : TopW W) : Mak W "Net" (He.ga W.K "Net") 5 (sp_Net_init W) := by
  have C_begun := C_begun T
  have C_is_row := C_is_row T
  refine mak_mk T (d := d_Net_init) (ps := ["self", "folk", "inputs"]) 36 65 63 rfl rfl rfl rfl rfl rfl fun f fd F => ⟨fng_of F sc_Net_init (fun vs H Q h => ?_) (fun cdv A outer s H vs Q hr hg h => ?_), F.bindsN fun _ _ _ _ _ _ us hl => match us, hl with | [_, _, _], _ => rfl⟩
  · obtain ⟨x, fo, ia, dx, s, ins, h0, hx, hf, hi, sok, n3, n5, io, q⟩ := h
    first | rfl | (subst h0; rfl)
  · have hu := hu_of hr
    have nd := sc_Net_init.nd
    obtain ⟨x, fo, ia, dx, s, ins, h0, hx, hf, hi, sok, n3, n5, io, q⟩ := h
    try subst h0
    refine ⟨_, (pss_cons (ps_if (pt_not (pt_val (pe_cal C_is_row rfl hr (by decide) hg rfl (pa_cons (pv 2) pa_nil)))) (pss_one ps_never) pss_nil) (pss_one (ps_fld (pv 0) (pe_cal C_begun rfl hr (by decide) hg rfl (pa_cons (pv 1) (pa_cons (pv 2) pa_nil))) rfl))), ?_⟩
    refine q_when (b := false) (et_not (et_B (ev_calR (v := .bl true) (by walk_at "ev") fun H1 e Q k => ⟨ia, ins, rfl, e _ _ hi, n3, n5, k⟩))) (fun h => by cases h) fun _ H1 e1 => ?_
    refine s_fldC (R := fun v H3 => ∃ H2 st c Hs, Ex H1 H2 ∧ v = .ref st ∧ Ex H2 H3 ∧ Ex H2 Hs ∧ (∀ a, c.Fp ins.length a → H2 a = none) ∧ NetW W Hs H3 st c fo ia s ins (begS s ins)) (fun Q k => (show EvA (tCons (tVar 1) (tCons (tVar 2) tNil)) (L2.start N_Net_init [.ref x, .ref fo, .ref ia]) H1 [.ref fo, .ref ia] from by walk_at "ev") H1 (Ex.refl _) _ fun H2 e2 => ⟨fo, ia, s, ins, rfl, hf.ex (e1.trans e2), (e1.trans e2) _ _ hi, sok, n3, n5, io, fun H3 st c Hs e3 es hfp NW => k _ _ ⟨H2, st, c, Hs, e2, rfl, e3, es, hfp, NW⟩⟩) rfl
      (fun v H3 r => by obtain ⟨H2, _, _, _, e2, _, e3, _⟩ := r; exact ((e1.trans e2).trans e3) _ _ hx) T.cls_Net T.noat_Net_kept_state (by decide) fun v H3 r => ?_
    obtain ⟨H2, st, c, Hs, e2, rfl, e3, es, hfp, NW⟩ := r
    have e12 := e1.trans e2
    have hx3 := (e12.trans e3) _ _ hx
    have hxs := (e12.trans es) _ _ hx
    have nfx : ∀ a, c.Fp ins.length a → a ≠ x := fun a h z => by
      have := hfp a h
      rw [z, e12 _ _ hx] at this
      cases this
    refine q _ st c (upd Hs x (.ins (cN W) dx [("kept_state", .ref st)])) (fun a o h z => (upd_ne z).trans ((e12.trans e3) _ _ h)) (fun a o h z => (upd_ne z).trans ((e12.trans es) _ _ h)) ⟨dx, upd_same⟩ (fun a h => fresh_back e12 (hfp a h)) ⟨fun a o h => ?_, NW.st.putx hxs, fun a h => (upd_ne (nfx a h)).trans (NW.free a h), ?_⟩
    · by_cases z : a = x
      · subst z
        rw [upd_same] at h
        show upd H3 a _ a = some o
        rw [upd_same]
        exact h
      · rw [upd_ne z] at h
        exact (upd_ne z).trans (NW.ex _ _ h)
    · refine NW.net.fr (M := fun a => a = x) (fun a o h z => (upd_ne z).trans h) (fun a h => nfx a h) fun a xs ha z => ?_
      rw [z, hx3] at ha
      cases ha
end Kn

set_option Elab.async false
set_option linter.all false
set_option maxRecDepth 100000
set_option maxHeartbeats 4000000
/-! the law's draws -/
namespace Kn
open PySem PySem.Spec PyProof.Rows L2 Evl
local macro_rules | `(tactic| walk_at "ev") => `(tactic| first
  | ((with_reducible apply ev_var); exact rfl)
  | with_reducible exact ev_c
  | with_reducible exact ea_nil
  | ((with_reducible apply ea_cons) <;> walk_at "ev")
  | ((with_reducible apply ev_int); walk_at "ev")
  | ((with_reducible apply ev_op) <;> walk_at "ev")
  | ((with_reducible apply ev_un) <;> walk_at "ev")
  | with_reducible exact rv_I0
  | with_reducible exact rv_isN
  | ((with_reducible apply rv_eq); exact rfl)
  | ((with_reducible apply rv_ne); exact rfl)
  | with_reducible exact ru_neg
  | ((with_reducible apply rv_I); first | exact Or.inl (by decide) | decide | assumption | skip)
  | ((with_reducible apply rv_ixL) <;> first | assumption | exact rfl | skip)
  | ((with_reducible apply rv_ixT) <;> first | assumption | exact rfl | skip)
  | ((with_reducible apply ev_fld) <;> first | walk_at "ev" | assumption | exact rfl | skip)
  | ((with_reducible apply ev_len) <;> first | walk_at "ev" | assumption | skip)
  | ((with_reducible apply ev_lenT) <;> first | walk_at "ev" | assumption | skip)
  | exact rv_eq rfl
  | exact rv_ne rfl
  | assumption
  | skip)
/-- the pot at p; what is fixed stands in Hs -/
structure PotAt (Hs H : Hp) (p : Addr) : Prop where
  ex : Ex Hs H
  fr : Hs p = none
  at_ : ∃ (ca : Addr) (ns : List Int) (i x y z : Int), H p = some (.lst [.ref ca, .int i, .int x, .int y, .int z]) ∧ Hs ca = some (.lst (ns.map V.int)) ∧ (∀ v ∈ ns, 0 ≤ v) ∧ 0 ≤ i ∧ 0 ≤ x ∧ 0 ≤ y ∧ 0 ≤ z
abbrev IsA (p : Addr) : Addr → Prop := fun a => a = p
theorem PotAt.exx {Hs H H' : Hp} {p : Addr} (h : PotAt Hs H p) (e : Ex H H') : PotAt Hs H' p := by
  obtain ⟨ca, ns, i, x, y, z, h1, h2⟩ := h.at_
  exact ⟨h.ex.trans e, h.fr, ca, ns, i, x, y, z, e _ _ h1, h2⟩
theorem PotAt.some {Hs H : Hp} {p : Addr} (h : PotAt Hs H p) : H p ≠ none := by
  obtain ⟨ca, ns, i, x, y, z, h1, h2⟩ := h.at_
  rw [h1]
  exact fun z => nomatch z
theorem PotAt.noT {Hs H : Hp} {p : Addr} (h : PotAt Hs H p) : ∀ a xs, H a = Option.some (.tup xs) → ¬ IsA p a := fun a xs ha e => by
  obtain ⟨ca, ns, i, x, y, z, h1, h2⟩ := h.at_
  have e : a = p := e
  rw [e, h1] at ha
  cases ha
/-- the pot's list rewritten -/
theorem PotAt.put {Hs H H' : Hp} {p ca : Addr} {ns : List Int} {i x y z : Int} (h : PotAt Hs H p) (f : Fr (IsA p) H H') (h1 : H' p = Option.some (.lst [.ref ca, .int i, .int x, .int y, .int z])) (h2 : Hs ca = Option.some (.lst (ns.map V.int))) (h3 : ∀ v ∈ ns, 0 ≤ v) (hi : 0 ≤ i) (hx : 0 ≤ x) (hy : 0 ≤ y) (hz : 0 ≤ z) : PotAt Hs H' p :=
  ⟨fun a o q => f a o (h.ex a o q) (fun e => by
    have e : a = p := e
    rw [e, h.fr] at q
    cases q), h.fr, ⟨ca, ns, i, x, y, z, h1, h2, h3, hi, hx, hy, hz⟩⟩
theorem fr_upd {H : Hp} {p : Addr} {o : HO} : Fr (IsA p) H (upd H p o) := fun a u h z => (upd_ne z).trans h
def sp__law_draw (W : Wd) : GS := fun vs H Q => ∃ (Hs : Hp) (p : Addr) (m : Int), vs = [.ref p, .int m] ∧ PotAt Hs H p ∧ 0 < m ∧ m < 2 ^ 64 ∧ ∀ (r : Int) H', Fr (IsA p) H H' → PotAt Hs H' p → 0 ≤ r → r < m → Q (.int r) H'
theorem pow18 : (10 : Int) ^ (18 : Int).toNat = 1000000000000000000 := by decide
abbrev N__law_draw : List Str := ["_law_pot_here", "_law_many", "_law_cell", "_law_digit", "_law_number"]
theorem sc__law_draw : FnScope N__law_draw ["_law_pot_here", "_law_many"] (defScope s_law_draw) := ⟨rfl, rfl, rfl, by decide +kernel, rfl, by decide +kernel, by decide +kernel⟩
theorem C__law_draw {W : Wd} (T : TopW W) : Cal W "_law_draw" 1 (sp__law_draw W) := by
  refine cal_mk T (d := d_law_draw) (ps := ["_law_pot_here", "_law_many"]) 43 35 rfl rfl rfl rfl rfl fun f fd F => ⟨fng_of F sc__law_draw (fun vs H Q h => ?_) (fun cdv A outer s H vs Q hr hg h => ?_), F.bindsN fun _ _ _ _ _ _ us hl => match us, hl with | [_, _], _ => rfl⟩
  · obtain ⟨Hs, p, m, h0, P, hm, hm2, q⟩ := h
    first | rfl | (subst h0; rfl)
  · have hu := hu_of hr
    have nd := sc__law_draw.nd
    obtain ⟨Hs, p, m, h0, P, hm, hm2, q⟩ := h
    try subst h0
    refine ⟨_, (pss_cut (ps_if (PW.pt (pw_and (pt_cmpR op_eq (pe_ixlk (K := W.K) rfl (pv 0) pe_int (fun _ _ => rfl)) pe_int (nomark _)) (pw_and1 (pt_cmpR op_lt (pe_ixlk (K := W.K) rfl (pv 0) pe_int (fun _ _ => rfl)) (pe_callB (cr_lenk (K := W.K) rfl) rfl T.free_len boot_len (pa_cons (pe_ixlk (K := W.K) rfl (pv 0) pe_int (fun _ _ => rfl)) pa_nil)) (nomark _))))) (pss_cons (ps_set (i := 2) nd rfl (Or.inl rfl) (pe_ixlk (K := W.K) rfl (pe_ixlk (K := W.K) rfl (pv 0) pe_int (fun _ _ => rfl)) (pe_ixlk (K := W.K) rfl (pv 0) pe_int (fun _ _ => rfl)) (fun _ _ => rfl))) (pss_cons (ps_asg (pe_op op_add (pe_ixlk (K := W.K) rfl (pv 0) pe_int (fun _ _ => rfl)) pe_int) (pg_sub (pv 0) pe_int set_list)) (pss_cons (ps_asg (pe_op op_mod (pe_callTy cr_int1 rfl T.free_int boot_int (pa_cons (pe_op op_add (pe_op op_add (pe_op op_mul (pe_ixlk (K := W.K) rfl (pv 0) pe_int (fun _ _ => rfl)) pe_int) (pv 2)) pe_int) pa_nil)) pe_int) (pg_sub (pv 0) pe_int set_list)) (pss_one (ps_if (pt_cmpR op_ge (pv 2) (pe_op op_pow pe_int pe_int) (nomark _)) (pss_one (ps_asg (pv 2) (pg_sub (pv 0) pe_int set_list))) pss_nil))))) pss_nil) (pss_cons (ps_if (pt_cmpR op_gt (pe_ixlk (K := W.K) rfl (pv 0) pe_int (fun _ _ => rfl)) pe_int (nomark _)) (pss_cons (ps_set (i := 3) nd rfl (Or.inl rfl) (pe_op op_mod (pe_callTy cr_int1 rfl T.free_int boot_int (pa_cons (pe_ixlk (K := W.K) rfl (pv 0) pe_int (fun _ _ => rfl)) pa_nil)) (pv 1))) (pss_cons (ps_asg (pe_op op_fdivW (pe_ixlk (K := W.K) rfl (pv 0) pe_int (fun _ _ => rfl)) (pv 1)) (pg_sub (pv 0) pe_int set_list)) (pss_one (ps_ret (pv 3))))) pss_nil) (pss_cons (ps_asg (pe_op op_add (pe_ixlk (K := W.K) rfl (pv 0) pe_int (fun _ _ => rfl)) pe_int) (pg_sub (pv 0) pe_int set_list)) (pss_cons (ps_set (i := 4) nd rfl (Or.inl rfl) (pe_op op_mod (pe_callTy cr_int1 rfl T.free_int boot_int (pa_cons (pe_op op_mul (pe_callTy cr_int1 rfl T.free_int boot_int (pa_cons (pe_op op_add (pe_ixlk (K := W.K) rfl (pv 0) pe_int (fun _ _ => rfl)) (pe_op op_mul pe_int (pe_ixlk (K := W.K) rfl (pv 0) pe_int (fun _ _ => rfl)))) pa_nil)) pe_int) pa_nil)) pe_int)) (pss_cons (ps_set (i := 4) nd rfl (Or.inl rfl) (pe_op op_mod (pe_callTy cr_int1 rfl T.free_int boot_int (pa_cons (pe_op op_mul (pv 4) (pe_op op_add (pe_op op_fdiv (pv 4) pe_int) pe_int)) pa_nil)) pe_int)) (pss_cons (ps_set (i := 4) nd rfl (Or.inl rfl) (pe_op op_mod (pe_callTy cr_int1 rfl T.free_int boot_int (pa_cons (pe_op op_mul (pv 4) (pe_op op_add (pe_op op_fdiv (pv 4) pe_int) pe_int)) pa_nil)) pe_int)) (pss_one (ps_ret (pe_op op_mod (pe_callTy cr_int1 rfl T.free_int boot_int (pa_cons (pe_op op_fdiv (pv 4) pe_int) pa_nil)) (pv 1)))))))))), ?_⟩
    obtain ⟨ca, ns, i, x, y, z, h1, h2, h3, hi, hx, hy, hz⟩ := P.at_
    have hq : SqL W.K H p _ := sq_of h1
    have hcq : SqL W.K H ca _ := sq_of (P.ex _ _ h2)
    have len : (ns.map V.int).length = ns.length := List.length_map _
    refine q_cut (M := fun σ' H' => Fr (IsA p) H H' ∧ PotAt Hs H' p ∧ ∃ o : Option V, σ' = [some (.ref p), some (.int m), o, none, none]) ?_ ?_
    · refine s_when (b := decide (V.int x = V.int 0) && decide (i < (ns.length : Nat))) (et_and (et_test (by walk_at "ev")) fun _ => et_test (ev_op (by walk_at "ev") (by rw [← len]; exact ev_len (by walk_at "ev") hcq) rv_I0)) (fun h H1 e1 => ?_) fun h H1 e1 => ⟨Fr.ex e1, P.exx e1, none, rfl⟩
      rw [Bool.and_eq_true] at h
      obtain ⟨_, hlt⟩ := h
      have hlt := of_decide_eq_true hlt
      have P1 := P.exx e1
      have hq1 : SqL W.K H1 p _ := sq_of (e1 _ _ h1)
      have hcq1 : SqL W.K H1 ca _ := sq_of (P1.ex _ _ h2)
      have hin : i.toNat < ns.length := by omega
      have hci : (ns.map V.int)[i.toNat]? = some (.int ns[i.toNat]) := by simp [hin]
      have hge : 0 ≤ ns[i.toNat] := h3 _ (List.getElem_mem hin)
      have hat : atI (ns.map V.int) i = some (.int ns[i.toNat]) := by
        have := atI_nat hci
        rwa [show ((i.toNat : Nat) : Int) = i by omega] at this
      generalize ns[i.toNat] = cell at hci hge hat
      refine q_asg (v := .int cell) (ev_op (by walk_at "ev") (by walk_at "ev") (rv_ixL hcq1 hat)) fun H2 e2 => ?_
      have h12 := (e1.trans e2) _ _ h1
      have hq2 : SqL W.K H2 p _ := sq_of h12
      refine q_setP (P := (MP.eq (.int (i + 1))).p) (j := 1) h12 (ep_ev (by walk_at "ev")) (ev_var rfl) ev_c (by simp) (fun _ _ _ _ p => p) fun v H3 e3 pv => ?_
      have pv : v = .int (i + 1) := pv
      subst pv
      have f3 : Fr (IsA p) H (upd H3 p (.lst [.ref ca, .int (i + 1), .int x, .int y, .int z])) := (Fr.ex ((e1.trans e2).trans e3)).trans fr_upd
      have k3 : upd H3 p (.lst [.ref ca, .int (i + 1), .int x, .int y, .int z]) p = _ := upd_same
      show tSeq _ _ _ _ (upd H3 p (.lst [.ref ca, .int (i + 1), .int x, .int y, .int z]))
      generalize upd H3 p (.lst [.ref ca, .int (i + 1), .int x, .int y, .int z]) = H4 at f3 k3
      have hq4 : SqL W.K H4 p _ := sq_of k3
      refine q_setP (P := (MP.eq (.int ((y * 69621 + cell + 11) % 2147483629))).p) (j := 3) k3 (ep_ev (ev_op (ev_int (ev_op (ev_op (ev_op (by walk_at "ev") ev_c (rv_I (Or.inr (by decide)))) (ev_var rfl) rv_I0) ev_c rv_I0)) ev_c (rv_I (by decide)))) (ev_var rfl) ev_c (by simp) (fun _ _ _ _ p => p) fun v H5 e5 pv => ?_
      have pv : v = .int ((y * 69621 + cell + 11) % 2147483629) := pv
      subst pv
      have hy5 : 0 ≤ (y * 69621 + cell + 11) % 2147483629 := Int.emod_nonneg _ (by decide)
      generalize (y * 69621 + cell + 11) % 2147483629 = y5 at hy5
      have f5 : Fr (IsA p) H (upd H5 p (.lst [.ref ca, .int (i + 1), .int x, .int y5, .int z])) := (f3.trans (Fr.ex e5)).trans fr_upd
      have k5 : upd H5 p (.lst [.ref ca, .int (i + 1), .int x, .int y5, .int z]) p = _ := upd_same
      show tIfS _ _ _ _ _ (upd H5 p (.lst [.ref ca, .int (i + 1), .int x, .int y5, .int z]))
      generalize upd H5 p (.lst [.ref ca, .int (i + 1), .int x, .int y5, .int z]) = H6 at f5 k5
      refine s_when (b := decide ((10 : Int) ^ (18 : Int).toNat ≤ cell)) (et_test (ev_op (ev_var rfl) (ev_op ev_c ev_c (rv_I ⟨by decide, by decide, by decide⟩)) rv_I0)) (fun _ H7 e7 => ?_) fun _ H7 e7 => ?_
      · refine s_setP (P := (MP.eq (.int cell)).p) (j := 2) (e7 _ _ k5) (ep_ev (ev_var rfl)) (ev_var rfl) ev_c (by simp) (fun _ _ _ _ p => p) fun v H8 e8 pv => ?_
        have pv : v = .int cell := pv
        subst pv
        have f8 : Fr (IsA p) H (upd H8 p (.lst [.ref ca, .int (i + 1), .int cell, .int y5, .int z])) := (f5.trans (Fr.ex (e7.trans e8))).trans fr_upd
        exact ⟨f8, P.put f8 upd_same h2 h3 (by omega) hge hy5 hz, _, rfl⟩
      · exact ⟨f5.trans (Fr.ex e7), P.put (f5.trans (Fr.ex e7)) (e7 _ _ k5) h2 h3 (by omega) hx hy5 hz, _, rfl⟩
    · rintro σ' H1 ⟨f1, P1, o, rfl⟩
      clear h1 h2 h3 hi hx hy hz hq hcq len
      obtain ⟨ca, ns, i, x, y, z, h1, h2, h3, hi, hx, hy, hz⟩ := P1.at_
      have hq : SqL W.K H1 p _ := sq_of h1
      refine q_when (b := decide (0 < x)) (et_test (by walk_at "ev")) (fun h H2 e2 => ?_) fun h H2 e2 => ?_
      · have h12 := e2 _ _ h1
        have hq2 : SqL W.K H2 p _ := sq_of h12
        refine q_asg (v := .int (x % m)) (ev_op (ev_int (by walk_at "ev")) (ev_var rfl) (rv_I hm)) fun H3 e3 => ?_
        have h13 := e3 _ _ h12
        have hq3 : SqL W.K H3 p _ := sq_of h13
        refine q_setP (P := (MP.eq (.int (x / m))).p) (j := 2) h13 (ep_ev (ev_op (by walk_at "ev") (ev_var rfl) (rv_I (wide_div hm (b := 64) (by omega) (by decide) (by decide))))) (ev_var rfl) ev_c (by simp) (fun _ _ _ _ p => p) fun v H4 e4 pv => ?_
        have pv : v = .int (x / m) := pv
        subst pv
        have f4 : Fr (IsA p) H (upd H4 p (.lst [.ref ca, .int i, .int (x / m), .int y, .int z])) := (f1.trans (Fr.ex ((e2.trans e3).trans e4))).trans fr_upd
        have P4 := P.put f4 upd_same h2 h3 hi (Int.ediv_nonneg hx (by omega)) hy hz
        refine s_retE (v := .int (x % m)) (ev_var rfl) fun v H5 e5 p => ?_
        have p : v = .int (x % m) := p
        subst p
        exact q _ H5 (f4.trans (Fr.ex e5)) (P4.exx e5) (Int.emod_nonneg _ (by omega)) (Int.emod_lt_of_pos _ hm)
      · have h12 := e2 _ _ h1
        have hq2 : SqL W.K H2 p _ := sq_of h12
        refine q_setP (P := (MP.eq (.int (z + 1))).p) (j := 4) h12 (ep_ev (by walk_at "ev")) (ev_var rfl) ev_c (by simp) (fun _ _ _ _ p => p) fun v H3 e3 pv => ?_
        have pv : v = .int (z + 1) := pv
        subst pv
        have f3 : Fr (IsA p) H (upd H3 p (.lst [.ref ca, .int i, .int x, .int y, .int (z + 1)])) := (f1.trans (Fr.ex (e2.trans e3))).trans fr_upd
        have k3 : upd H3 p (.lst [.ref ca, .int i, .int x, .int y, .int (z + 1)]) p = _ := upd_same
        have P3 := P.put f3 k3 h2 h3 hi hx hy (by omega)
        show tSeq _ _ _ _ (upd H3 p (.lst [.ref ca, .int i, .int x, .int y, .int (z + 1)]))
        generalize upd H3 p (.lst [.ref ca, .int i, .int x, .int y, .int (z + 1)]) = H4 at f3 k3 P3
        have hq4 : SqL W.K H4 p _ := sq_of k3
        refine q_asg (v := .int (((y + 7919 * (z + 1)) * 48271) % 2147483647)) (ev_op (ev_int (ev_op (ev_int (ev_op (by walk_at "ev") (ev_op ev_c (by walk_at "ev") (rv_I (Or.inl (by decide)))) rv_I0)) ev_c (rv_I (Or.inr (by decide))))) ev_c (rv_I (by decide))) fun H5 e5 => ?_
        have a1 : 0 ≤ ((y + 7919 * (z + 1)) * 48271) % 2147483647 := Int.emod_nonneg _ (by decide)
        have a2 : ((y + 7919 * (z + 1)) * 48271) % 2147483647 < 2147483647 := Int.emod_lt_of_pos _ (by decide)
        generalize ((y + 7919 * (z + 1)) * 48271) % 2147483647 = n1 at a1 a2
        refine q_asg (v := .int ((n1 * (n1 / 1009 + 69621)) % 2147483647)) (ev_op (ev_int (ev_op (ev_var rfl) (ev_op (ev_op (ev_var rfl) ev_c (rv_I ⟨by decide, by decide⟩)) ev_c rv_I0) (rv_I (Or.inl (by omega))))) ev_c (rv_I (by decide))) fun H6 e6 => ?_
        have a3 : 0 ≤ (n1 * (n1 / 1009 + 69621)) % 2147483647 := Int.emod_nonneg _ (by decide)
        have a4 : (n1 * (n1 / 1009 + 69621)) % 2147483647 < 2147483647 := Int.emod_lt_of_pos _ (by decide)
        generalize (n1 * (n1 / 1009 + 69621)) % 2147483647 = n2 at a3 a4
        refine q_asg (v := .int ((n2 * (n2 / 2003 + 40692)) % 2147483399)) (ev_op (ev_int (ev_op (ev_var rfl) (ev_op (ev_op (ev_var rfl) ev_c (rv_I ⟨by decide, by decide⟩)) ev_c rv_I0) (rv_I (Or.inl (by omega))))) ev_c (rv_I (by decide))) fun H7 e7 => ?_
        generalize (n2 * (n2 / 2003 + 40692)) % 2147483399 = n3
        refine s_retE (v := .int (n3 / 16 % m)) (ev_op (ev_int (ev_op (ev_var rfl) ev_c (rv_I ⟨by decide, by decide⟩))) (ev_var rfl) (rv_I hm)) fun v H8 e8 p => ?_
        have p : v = .int (n3 / 16 % m) := p
        subst p
        have e48 := ((e5.trans e6).trans e7).trans e8
        exact q _ H8 (f3.trans (Fr.ex e48)) (P3.exx e48) (Int.emod_nonneg _ (by omega)) (Int.emod_lt_of_pos _ hm)
end Kn

set_option Elab.async false
set_option linter.all false
set_option maxRecDepth 100000
set_option maxHeartbeats 4000000
/-! the law's drawn things -/
namespace Kn
open PySem PySem.Spec PyProof.Rows L2 Evl
local macro_rules | `(tactic| walk_at "ev") => `(tactic| first
  | ((with_reducible apply ev_var); exact rfl)
  | with_reducible exact ev_c
  | with_reducible exact ea_nil
  | ((with_reducible apply ea_cons) <;> walk_at "ev")
  | ((with_reducible apply ev_int); walk_at "ev")
  | ((with_reducible apply ev_op) <;> walk_at "ev")
  | ((with_reducible apply ev_un) <;> walk_at "ev")
  | with_reducible exact rv_I0
  | with_reducible exact rv_isN
  | ((with_reducible apply rv_eq); exact rfl)
  | ((with_reducible apply rv_ne); exact rfl)
  | with_reducible exact ru_neg
  | ((with_reducible apply rv_I); first | exact Or.inl (by decide) | decide | assumption | skip)
  | ((with_reducible apply rv_ixL) <;> first | assumption | exact rfl | skip)
  | ((with_reducible apply rv_ixT) <;> first | assumption | exact rfl | skip)
  | ((with_reducible apply ev_fld) <;> first | walk_at "ev" | assumption | exact rfl | skip)
  | ((with_reducible apply ev_len) <;> first | walk_at "ev" | assumption | skip)
  | ((with_reducible apply ev_lenT) <;> first | walk_at "ev" | assumption | skip)
  | exact rv_eq rfl
  | exact rv_ne rfl
  | assumption
  | skip)
def sp__law_any (W : Wd) : GS := fun vs H Q => ∃ (Hs : Hp) (p l : Addr) (xs : List V), vs = [.ref p, .ref l] ∧ PotAt Hs H p ∧ H l = some (.lst xs) ∧ l ≠ p ∧ 0 < xs.length ∧ xs.length ≤ 100000 ∧ ∀ v H', Fr (IsA p) H H' → PotAt Hs H' p → v ∈ xs → Q v H'
abbrev N__law_any : List Str := ["_law_pot_here", "_law_things"]
theorem sc__law_any : FnScope N__law_any ["_law_pot_here", "_law_things"] (defScope s_law_any) := ⟨rfl, rfl, rfl, by decide +kernel, rfl, by decide +kernel, by decide +kernel⟩
theorem C__law_any {W : Wd} (T : TopW W) : Cal W "_law_any" 2 (sp__law_any W) := by
  have C__law_draw := C__law_draw T
  refine cal_mk T (d := d_law_any) (ps := ["_law_pot_here", "_law_things"]) 44 36 rfl rfl rfl rfl rfl fun f fd F => ⟨fng_of F sc__law_any (fun vs H Q h => ?_) (fun cdv A outer s H vs Q hr hg h => ?_), F.bindsN fun _ _ _ _ _ _ us hl => match us, hl with | [_, _], _ => rfl⟩
  · obtain ⟨Hs, p, l, xs, h0, P, hl, hne, hx, hz, q⟩ := h
    first | rfl | (subst h0; rfl)
  · have hu := hu_of hr
    have nd := sc__law_any.nd
    obtain ⟨Hs, p, l, xs, h0, P, hl, hne, hx, hz, q⟩ := h
    try subst h0
    refine ⟨_, (pss_one (ps_ret (pe_ixlk (K := W.K) rfl (pv 1) (pe_cal C__law_draw rfl hr (by decide) hg rfl (pa_cons (pv 0) (pa_cons (pe_callB (cr_lenk (K := W.K) rfl) rfl T.free_len boot_len (pa_cons (pv 1) pa_nil)) pa_nil))) (fun _ _ => rfl)))), ?_⟩
    refine ⟨.ref l, rfl, (show EvA (tCons (tVar 0) (tCons (tCB (rLenS W.K) (tCons (tVar 1) tNil)) tNil)) (L2.start N__law_any [.ref p, .ref l]) H [.ref p, .int (xs.length : Nat)] from ea_cons (ev_var rfl) (ea_cons (ev_len (ev_var rfl) (sq_of hl)) ea_nil)) H (Ex.refl H) _ fun H1 e1 => ⟨Hs, p, (xs.length : Nat), rfl, P.exx e1, by omega, by omega, fun r H2 f2 P2 r0 r1 => ?_⟩⟩
    have hr : r.toNat < xs.length := by omega
    have hat : atI xs r = some xs[r.toNat] := by
      have := atI_nat (xs := xs) (j := r.toNat) (v := xs[r.toNat]) (by simp [hr])
      rwa [show ((r.toNat : Nat) : Int) = r by omega] at this
    exact ⟨l, xs, r, _, rfl, rfl, sq_of (f2 _ _ (e1 _ _ hl) hne), hat, q _ H2 ((Fr.ex e1).trans f2) P2 (List.getElem_mem hr)⟩
theorem Fr.mut {M : Addr → Prop} {H H' : Hp} {p : Addr} {o : HO} (e : Fr M H H') (h : H p = none) : Fr M H (upd H' p o) := fun a u ha z => (upd_ne (ne_of_none ha h)).trans (e a u ha z)
theorem Fr.back {M : Addr → Prop} {H H' : Hp} {p : Addr} (e : Fr M H H') (h : H' p = none) (n : ¬ M p) : H p = none := by
  cases z : H p with
  | none => rfl
  | some o => rw [e _ _ z n] at h; cases h
theorem PotAt.ne {Hs H : Hp} {p a : Addr} (h : PotAt Hs H p) (ha : H a = none) : a ≠ p := fun z => h.some (by rw [← z]; exact ha)
section
variable {W : Wd} {σ : L2.St} {H Hs : Hp} {p : Addr} {i : Nat} {Q : VK} {te : TE} {tl : TA}
theorem t_draw {m : Int} (hv : σ[i]? = some (some (.ref p))) (P : PotAt Hs H p) (h : Ev te σ H (.int m)) (hm : 0 < m) (hm2 : m < 2 ^ 64) (k : ∀ (r : Int) H', Fr (IsA p) H H' → PotAt Hs H' p → 0 ≤ r → r < m → Q (.int r) H') : tCal (sp__law_draw W) (tCons (tVar i) (tCons te tNil)) σ H Q :=
  (ea_cons (ev_var hv) (ea_cons h ea_nil)) H (Ex.refl H) _ fun H1 e1 => ⟨Hs, p, m, rfl, P.exx e1, hm, hm2, fun r H2 f2 P2 a b => k r H2 ((Fr.ex e1).trans f2) P2 a b⟩
theorem t_any {xs : List V} (hv : σ[i]? = some (some (.ref p))) (P : PotAt Hs H p) (h : EvA tl σ H xs) (hl : 0 < xs.length) (hz : xs.length ≤ 1000) (k : ∀ v H', Fr (IsA p) H H' → PotAt Hs H' p → v ∈ xs → Q v H') : tCal (sp__law_any W) (tCons (tVar i) (tCons (tLst tl) tNil)) σ H Q :=
  ⟨_, hv, (el_lst h (by omega)) H (Ex.refl H) _ fun l H1 hl0 e1 hl1 => ⟨Hs, p, l, xs, rfl, P.exx e1, hl1, fun z => P.some (by rw [← z]; exact hl0), hl, by omega, fun v H2 f2 P2 hv2 => k v H2 ((Fr.ex e1).trans f2) P2 hv2⟩⟩
/-- a list that stands -/
theorem t_anyL {l : Addr} {xs : List V} {j : Nat} (hv : σ[i]? = some (some (.ref p))) (hj : σ[j]? = some (some (.ref l))) (P : PotAt Hs H p) (h : H l = some (.lst xs)) (hne : l ≠ p) (hl : 0 < xs.length) (hz : xs.length ≤ 100000) (k : ∀ v H', Fr (IsA p) H H' → PotAt Hs H' p → v ∈ xs → Q v H') : tCal (sp__law_any W) (tCons (tVar i) (tCons (tVar j) tNil)) σ H Q :=
  ⟨_, hv, _, hj, Hs, p, l, xs, rfl, P, h, hne, hl, hz, k⟩
end
def sp__law_shape (W : Wd) : GS := fun vs H Q => ∃ (Hs : Hp) (p : Addr) (r : Nat), vs = [.ref p, .int r] ∧ PotAt Hs H p ∧ r ≤ 12 ∧ ∀ a s H', H a = none → Fr (IsA p) H H' → PotAt Hs H' p → ShapeAt H' a s → s.Ok → s.rounds = r → Q (.ref a) H'
abbrev N__law_shape : List Str := ["_law_pot_here", "_law_rounds", "_law_kind"]
theorem sc__law_shape : FnScope N__law_shape ["_law_pot_here", "_law_rounds"] (defScope s_law_shape) := ⟨rfl, rfl, rfl, by decide +kernel, rfl, by decide +kernel, by decide +kernel⟩
theorem C__law_shape {W : Wd} (T : TopW W) : Cal W "_law_shape" 3 (sp__law_shape W) := by
  have C__law_any := C__law_any T
  have C__law_draw := C__law_draw T
  refine cal_mk T (d := d_law_shape) (ps := ["_law_pot_here", "_law_rounds"]) 45 37 rfl rfl rfl rfl rfl fun f fd F => ⟨fng_of F sc__law_shape (fun vs H Q h => ?_) (fun cdv A outer s H vs Q hr hg h => ?_), F.bindsN fun _ _ _ _ _ _ us hl => match us, hl with | [_, _], _ => rfl⟩
  · obtain ⟨Hs, p, r, h0, P, hr12, q⟩ := h
    first | rfl | (subst h0; rfl)
  · have hu := hu_of hr
    have nd := sc__law_shape.nd
    obtain ⟨Hs, p, r, h0, P, hr12, q⟩ := h
    try subst h0
    refine ⟨_, (pss_cons (ps_set (i := 2) nd rfl (Or.inl rfl) (pe_cal C__law_any rfl hr (by decide) hg rfl (pa_cons (pv 0) (pa_cons (pe_lst (pa_cons pe_int (pa_cons pe_int (pa_cons pe_int (pa_cons pe_int (pa_cons pe_int pa_nil)))))) pa_nil)))) (pss_cut (ps_if (PW.pt (pw_and (pt_cmpR op_eq (pv 2) pe_int (nomark _)) (pw_and1 (pt_cmpR op_gt (pv 1) pe_int (nomark _))))) (pss_one (ps_set (i := 2) nd rfl (Or.inl rfl) pe_int)) pss_nil) (pss_one (ps_ret (pe_lst (pa_cons (pv 1) (pa_cons (pe_op op_add pe_int (pe_cal C__law_draw rfl hr (by decide) hg rfl (pa_cons (pv 0) (pa_cons pe_int pa_nil)))) (pa_cons (pe_cal C__law_draw rfl hr (by decide) hg rfl (pa_cons (pv 0) (pa_cons (pe_op op_pow pe_int pe_int) pa_nil))) (pa_cons (pv 2) pa_nil))))))))), ?_⟩
    refine q_of (t_any rfl P (show EvA _ _ _ [V.int 0, V.int 0, V.int 0, V.int 1, V.int 2] from by walk_at "ev") (by decide) (by decide) fun v H1 f1 P1 hv => ?_)
    obtain ⟨k0, rfl, hk0⟩ : ∃ k0 : Nat, v = .int k0 ∧ k0 ≤ 2 := by
      simp at hv
      rcases hv with rfl | rfl | rfl
      · exact ⟨0, rfl, by decide⟩
      · exact ⟨1, rfl, by decide⟩
      · exact ⟨2, rfl, by decide⟩
    refine q_cut (M := fun σ' H' => Fr (IsA p) H H' ∧ PotAt Hs H' p ∧ ∃ k : Nat, k ≤ 2 ∧ (k = 1 → r ≤ 2) ∧ σ' = [some (.ref p), some (.int r), some (.int k)]) ?_ ?_
    · refine s_when (b := decide (V.int (k0 : Nat) = V.int (1 : Nat)) && decide ((2 : Int) < (r : Int))) (et_and (et_test (ev_op (ev_var rfl) ev_c (rv_eq rfl))) fun _ => et_test (ev_op (ev_var rfl) ev_c rv_I0)) (fun _ H2 e2 => ?_) fun h H2 e2 => ?_
      · exact s_asg ev_c fun H3 e3 => ⟨f1.trans (Fr.ex (e2.trans e3)), P1.exx (e2.trans e3), 0, by decide, (fun z => nomatch z), rfl⟩
      · refine ⟨f1.trans (Fr.ex e2), P1.exx e2, k0, hk0, fun z => ?_, rfl⟩
        rw [kind_eq z, Bool.true_and] at h
        have := of_decide_eq_false h
        omega
    · rintro σ' H2 ⟨f2, P2, k, hk, hk1, rfl⟩
      refine ⟨_, rfl, ?_⟩
      refine t_draw (te := tC (.int 997)) rfl P2 ev_c (by decide) (by decide) fun r1 H3 f3 P3 a0 a1 => ?_
      refine ⟨2, r1, rfl, rfl, ?_⟩
      refine t_draw (te := tOp (rI CPow fun i j => V.int (i ^ j.toNat)) (tC (V.int 10)) (tC (V.int 6))) rfl P3 (ev_op ev_c ev_c (rv_I ⟨by decide, by decide, by decide⟩)) (by decide) (by decide) fun r2 H4 f4 P4 b0 b1 => ?_
      have b1 : r2 < 1000000 := b1
      refine ⟨_, rfl, by show 4 ≤ sizeLine; decide, fun a ha => ?_⟩
      have f24 := (f2.trans f3).trans f4
      have ex := Ex.new (o := .lst [V.int r, V.int (2 + r1), V.int r2, V.int k]) ha
      refine q a ⟨r, 2 + r1, r2, k⟩ _ ?_ (f24.trans (Fr.ex ex)) (P4.exx ex) upd_same ⟨hr12, by show 0 ≤ 2 + r1; omega, by show 2 + r1 < 1000; omega, b0, b1, hk, hk1⟩ rfl
      cases z : H a with
      | none => rfl
      | some o =>
        have : a ≠ p := fun w => P4.some (by rw [← w]; exact ha)
        rw [f24 _ _ z this] at ha
        cases ha
def sp__law_counted (W : Wd) : GS := fun vs H Q => ∃ (v : V) (s : Sh) (me : Nat) (d : PyData), vs = [v] ∧ AnsP W.K s me d v H ∧ Ret (MP.eq (iV (ansD s me d))).p H Q
abbrev N__law_counted : List Str := ["_law_thing"]
theorem sc__law_counted : FnScope N__law_counted ["_law_thing"] (defScope s_law_counted) := ⟨rfl, rfl, rfl, by decide +kernel, rfl, by decide +kernel, by decide +kernel⟩
theorem C__law_counted {W : Wd} (T : TopW W) : Cal W "_law_counted" 1 (sp__law_counted W) := by
  refine cal_mk T (d := d_law_counted) (ps := ["_law_thing"]) 50 42 rfl rfl rfl rfl rfl fun f fd F => ⟨fng_of F sc__law_counted (fun vs H Q h => ?_) (fun cdv A outer s H vs Q hr hg h => ?_), F.bindsN fun _ _ _ _ _ _ us hl => match us, hl with | [_], _ => rfl⟩
  · obtain ⟨v, s, me, d, h0, ha, q⟩ := h
    first | rfl | (subst h0; rfl)
  · have hu := hu_of hr
    have nd := sc__law_counted.nd
    obtain ⟨v, s, me, d, h0, ha, q⟩ := h
    try subst h0
    refine ⟨_, (pss_one (ps_ret (pe_ifExp (PW.pt (pw_and (pt_val (pe_callB (cr_isk (K := W.K) rfl) rfl T.free_isinstance boot_isinstance (pa_cons (pv 0) (pa_cons (pe_ty (T.free_int) rfl rfl boot_int) pa_nil)))) (pw_and1 (pt_not (pt_val (pe_callB (cr_isk (K := W.K) rfl) rfl T.free_isinstance boot_isinstance (pa_cons (pv 0) (pa_cons (pe_ty (T.free_bool) rfl rfl boot_bool) pa_nil)))))))) (pv 0) pe_non))), ?_⟩
    rcases ha with ⟨i, rfl, ha⟩ | ⟨ha, tn, b1, b2, ty, k1, k2, kb⟩
    · rw [ha] at q
      exact s_retE (ev_if (b := true) (et_is (et_and (et_B (ev_isi (ev_var rfl) (fun H' e => .base (.int i)) kit_ii)) fun _ => et_not (et_B (ev_isi (ev_var rfl) (fun H' e => .base (.int i)) kit_ib))) rfl) (fun _ => ev_var rfl) fun h => by cases h) q
    · rw [ha] at q
      exact s_retE (ev_if (b := false) (et_is (et_and (et_B (ev_isi (ev_var rfl) ty k1)) fun _ => et_not (et_B (ev_isi (ev_var rfl) ty k2))) kb) (fun h => by cases h) fun _ => ev_c) q
def sp__law_inputs (W : Wd) : GS := fun vs H Q => ∃ (Hs : Hp) (p : Addr) (n : Nat), vs = [.ref p, .int n] ∧ PotAt Hs H p ∧ n ≤ 5 ∧ ∀ a (ins : List Int) H', H a = none → Fr (IsA p) H H' → PotAt Hs H' p → H' a = some (.tup (ins.map V.int)) → ins.length = n → (∀ v ∈ ins, v.natAbs < 2 ^ 64) → Q (.ref a) H'
abbrev N__law_inputs : List Str := ["_law_pot_here", "_law_many", "_law_most", "_law_me"]
theorem sc__law_inputs : FnScope N__law_inputs ["_law_pot_here", "_law_many"] (defScope s_law_inputs) := ⟨rfl, rfl, rfl, by decide +kernel, rfl, by decide +kernel, by decide +kernel⟩
theorem C__law_inputs {W : Wd} (T : TopW W) : Cal W "_law_inputs" 3 (sp__law_inputs W) := by
  have C__law_any := C__law_any T
  have C__law_draw := C__law_draw T
  refine cal_mk T (d := d_law_inputs) (ps := ["_law_pot_here", "_law_many"]) 51 43 rfl rfl rfl rfl rfl fun f fd F => ⟨fng_of F sc__law_inputs (fun vs H Q h => ?_) (fun cdv A outer s H vs Q hr hg h => ?_), F.bindsN fun _ _ _ _ _ _ us hl => match us, hl with | [_, _], _ => rfl⟩
  · obtain ⟨Hs, p, n, h0, P, hn, q⟩ := h
    first | rfl | (subst h0; rfl)
  · have hu := hu_of hr
    have nd := sc__law_inputs.nd
    obtain ⟨Hs, p, n, h0, P, hn, q⟩ := h
    try subst h0
    refine ⟨_, (pss_cons (ps_set (i := 2) nd rfl (Or.inr rfl) (pe_cal C__law_any rfl hr (by decide) hg rfl (pa_cons (pv 0) (pa_cons (pe_lst (pa_cons pe_int (pa_cons pe_int (pa_cons pe_int (pa_cons (pe_op op_pow pe_int pe_int) pa_nil))))) pa_nil)))) (pss_one (ps_ret (pe_callTy (cr_tupk (K := W.K) rfl) rfl T.free_tuple boot_tuple (pa_cons (pe_lc (own := [("_law_me", 3)]) rfl nd (pi_range1 rfl T.free_range (pa_cons (pv 1) pa_nil)) (blkOk_by (own := [("_law_me", 3)]) (N := N__law_inputs) (sc := defScope s_law_inputs) (by decide +kernel)) (fun _ _ _ _ _ => (pg_name (i := 3) nd rfl (Or.inl rfl))) (fun _ _ _ _ _ => pts_nil) (fun _ _ _ _ _ => (pe_op op_sub (pe_cal C__law_draw rfl hr (by decide) hg rfl (pa_cons (pv 0) (pa_cons (pv 2) pa_nil))) (pe_cal C__law_any rfl hr (by decide) hg rfl (pa_cons (pv 0) (pa_cons (pe_lst (pa_cons pe_int (pa_cons pe_int (pa_cons pe_int (pa_cons pe_int pa_nil))))) pa_nil)))))) pa_nil))))), ?_⟩
    refine q_of (t_any rfl P (show EvA _ _ _ [V.int 2, V.int 10, V.int 10000, V.int ((10 : Int) ^ (12 : Int).toNat)] from ea_cons ev_c (ea_cons ev_c (ea_cons ev_c (ea_cons (ev_op ev_c ev_c (rv_I ⟨by decide, by decide, by decide⟩)) ea_nil)))) (by decide) (by decide) fun v H1 f1 P1 hv => ?_)
    obtain ⟨m, rfl, hm0, hm1⟩ : ∃ m : Int, v = .int m ∧ 0 < m ∧ m ≤ 1000000000000 := by
      simp at hv
      rcases hv with rfl | rfl | rfl | rfl
      · exact ⟨2, rfl, by decide, by decide⟩
      · exact ⟨10, rfl, by decide, by decide⟩
      · exact ⟨10000, rfl, by decide, by decide⟩
      · exact ⟨_, rfl, by decide, by decide⟩
    refine ⟨_, rfl, n, rfl, by omega, by omega, fun Dl hD => ?_⟩
    have nDp : Dl ≠ p := P1.ne hD
    have en : ((n : Nat) : Int).toNat = n := by omega
    rw [en]
    refine lc_range (fun i H' => Fr (IsA p) H1 H' ∧ PotAt Hs H' p ∧ ∃ acc : List Int, H' Dl = some (.lst (acc.map V.int)) ∧ acc.length = i ∧ ∀ v ∈ acc, v.natAbs < 2 ^ 64) ⟨Fr.ex (Ex.new hD), P1.exx (Ex.new hD), [], upd_same, rfl, fun v h => by simp at h⟩ ?_ ?_
    · rintro i H' hi ⟨f2, P2, acc, k1, k2, k3⟩
      refine ⟨rfl, ?_⟩
      simp only [tYes, ↓reduceIte]
      refine t_draw (te := tVar 2) rfl P2 (ev_var rfl) hm0 (by omega) fun r H3 f3 P3 a0 a1 => ?_
      refine t_any rfl P3 (show EvA _ _ _ [V.int 0, V.int 0, V.int 0, V.int 3] from by walk_at "ev") (by decide) (by decide) fun v H4 f4 P4 hv4 => ?_
      obtain ⟨w, rfl, hw0, hw1⟩ : ∃ w : Int, v = .int w ∧ 0 ≤ w ∧ w ≤ 3 := by
        simp at hv4
        rcases hv4 with rfl | rfl
        · exact ⟨0, rfl, by decide, by decide⟩
        · exact ⟨3, rfl, by decide, by decide⟩
      have k4 := f4 _ _ (f3 _ _ k1 nDp) nDp
      refine ⟨r, w, rfl, rfl, _, k4, sz_lt (by rw [List.length_map]; omega), ((f2.trans f3).trans f4).mut hD, ?_, acc ++ [r - w], ?_, by simp [k2], fun u hu => ?_⟩
      · obtain ⟨ca, ms, i1, x1, y1, z1, g1, g2⟩ := P4.at_
        exact ⟨fun a o h => (upd_ne fun z => by rw [z] at h; rw [P1.ex _ _ h] at hD; cases hD).trans (P4.ex a o h), P4.fr, ca, ms, i1, x1, y1, z1, (upd_ne nDp.symm).trans g1, g2⟩
      · rw [upd_same, List.map_append]
        rfl
      · rcases List.mem_append.1 hu with h | h
        · exact k3 u h
        · simp at h
          subst h
          omega
    · rintro H' ⟨f2, P2, acc, k1, k2, k3⟩
      refine ⟨Dl, _, rfl, .inl ⟨sq_of k1, fun l hl => ?_⟩⟩
      have ex := Ex.new (o := .tup (acc.map V.int)) hl
      exact q l acc _ ((f1.trans f2).back hl (P2.ne hl)) ((f1.trans f2).trans (Fr.ex ex)) (P2.exx ex) upd_same k2 k3
def sp__law_pot (W : Wd) : GS := fun vs H Q => ∃ (a : Addr) (ns : List Int), vs = [.ref a] ∧ SqL W.K H a (ns.map V.int) ∧ ns.length ≤ 63 ∧ ∀ p ca (ms : List Int) H', H p = none → Ex H H' → H' p = some (.lst [.ref ca, .int 0, .int 0, .int (1 + (ms.length : Nat)), .int 0]) → H' ca = some (.lst (ms.map V.int)) → (∀ v ∈ ms, 0 ≤ v) → Q (.ref p) H'
abbrev N__law_pot : List Str := ["_law_script", "_law_cells", "_law_cell"]
theorem sc__law_pot : FnScope N__law_pot ["_law_script"] (defScope s_law_pot) := ⟨rfl, rfl, rfl, by decide +kernel, rfl, by decide +kernel, by decide +kernel⟩
theorem C__law_pot {W : Wd} (T : TopW W) : Cal W "_law_pot" 1 (sp__law_pot W) := by
  refine cal_mk T (d := d_law_pot) (ps := ["_law_script"]) 42 34 rfl rfl rfl rfl rfl fun f fd F => ⟨fng_of F sc__law_pot (fun vs H Q h => ?_) (fun cdv A outer s H vs Q hr hg h => ?_), F.bindsN fun _ _ _ _ _ _ us hl => match us, hl with | [_], _ => rfl⟩
  · obtain ⟨a, ns, h0, hs, hn, q⟩ := h
    first | rfl | (subst h0; rfl)
  · have hu := hu_of hr
    have nd := sc__law_pot.nd
    obtain ⟨a, ns, h0, hs, hn, q⟩ := h
    try subst h0
    refine ⟨_, (pss_cons (ps_setLc (i := 1) (own := [("_law_cell", 2)]) rfl nd rfl rfl (sw_true rfl rfl rfl (by decide +kernel)) (pi_listk (K := W.K) rfl (pe_slice (sl_listk (K := W.K) rfl) (pv 0) po_none (po_some pe_int))) (blkOk_by (own := [("_law_cell", 2)]) (N := N__law_pot) (sc := defScope s_law_pot) (by decide +kernel)) (fun _ _ _ _ _ => (pg_name (i := 2) nd rfl (Or.inl rfl))) (fun _ _ _ _ _ => pts_nil) (fun _ _ _ _ _ => (pe_callB cr_abs rfl T.free_abs boot_abs (pa_cons (pe_callTy cr_int1 rfl T.free_int boot_int (pa_cons (pv 2) pa_nil)) pa_nil)))) (pss_one (ps_ret (pe_lst (pa_cons (pv 1) (pa_cons pe_int (pa_cons pe_int (pa_cons (pe_op op_add pe_int (pe_callB (cr_lenk (K := W.K) rfl) rfl T.free_len boot_len (pa_cons (pv 1) pa_nil))) (pa_cons pe_int pa_nil))))))))), ?_⟩
    have yi : ∀ y ∈ cutV (ns.map V.int) none (some 63), ∃ j : Int, y = .int j := fun y hy => by
      unfold cutV at hy
      obtain ⟨j, _, e⟩ := List.mem_map.1 (List.mem_of_mem_drop (List.mem_of_mem_take hy))
      exact ⟨j, e.symm⟩
    have yl : (cutV (ns.map V.int) none (some 63)).length ≤ 63 := by
      unfold cutV
      rw [List.length_take, List.length_drop, List.length_map]
      omega
    generalize hys : cutV (ns.map V.int) none (some 63) = ys at yi yl
    let g : Nat → Int := fun i => match ys[i]? with
      | some (.int j) => if j < 0 then -j else j
      | _ => 0
    have gn : ∀ i, 0 ≤ g i := fun i => by
      show 0 ≤ (match ys[i]? with | some (.int j) => if j < 0 then -j else j | _ => 0)
      split
      · rename_i j _
        by_cases h : j < 0
        · rw [if_pos h]
          omega
        · rw [if_neg h]
          omega
      · exact Int.le_refl _
    refine q_asgL (el_lcNL (fun _ => true) (fun i => .int (g i)) (xs := ys) (by rw [← hys]; exact el_sl (ev_var rfl) eo_none (eo_some ev_c) hs) (by omega) (fun _ => rfl) (fun _ _ _ _ _ => fun H1 _ _ q => q H1 (Ex.refl H1)) fun i x H1 hx e1 _ => ?_) fun ca H1 hca e1 h1 => ?_
    · obtain ⟨j, rfl⟩ := yi x (List.mem_of_getElem? e1)
      have : g i = if j < 0 then -j else j := by
        show (match ys[i]? with | some (.int j) => if j < 0 then -j else j | _ => 0) = _
        rw [e1]
      rw [this]
      exact ev_abs (ev_int (ev_var rfl))
    have hl : (given ys.length (fun _ => true) fun i => V.int (g i)) = ((List.range ys.length).map g).map V.int := by
      unfold given
      rw [List.filter_eq_self.2 (fun _ _ => rfl), List.map_map]
      rfl
    rw [hl] at h1
    generalize hms : (List.range ys.length).map g = ms at h1
    refine s_retL (xs := [.ref ca, .int 0, .int 0, .int (1 + (ms.length : Nat)), .int 0]) (el_lst (ea_cons (ev_var rfl) (ea_cons ev_c (ea_cons ev_c (ea_cons (ev_op ev_c (ev_is (ev_len (ev_var rfl) (sq_of h1)) (by rw [List.length_map])) rv_I0) (ea_cons ev_c ea_nil))))) (by simp)) fun p H2 hp e2 h2 => ?_
    refine q p ca ms H2 (fresh_back e1 hp) (e1.trans e2) h2 (e2 _ _ h1) fun v hv => ?_
    rw [← hms] at hv
    obtain ⟨i, _, rfl⟩ := List.mem_map.1 hv
    exact gn i
end Kn

set_option Elab.async false
set_option linter.all false
set_option maxRecDepth 100000
set_option maxHeartbeats 4000000
/-! the law's own nets -/
namespace Kn
open PySem PySem.Spec PyProof.Rows L2 Evl
local macro_rules | `(tactic| walk_at "ev") => `(tactic| first
  | ((with_reducible apply ev_var); exact rfl)
  | with_reducible exact ev_c
  | with_reducible exact ea_nil
  | ((with_reducible apply ea_cons) <;> walk_at "ev")
  | ((with_reducible apply ev_int); walk_at "ev")
  | ((with_reducible apply ev_op) <;> walk_at "ev")
  | ((with_reducible apply ev_un) <;> walk_at "ev")
  | with_reducible exact rv_I0
  | with_reducible exact rv_isN
  | ((with_reducible apply rv_eq); exact rfl)
  | ((with_reducible apply rv_ne); exact rfl)
  | with_reducible exact ru_neg
  | ((with_reducible apply rv_I); first | exact Or.inl (by decide) | decide | assumption | skip)
  | ((with_reducible apply rv_ixL) <;> first | assumption | exact rfl | skip)
  | ((with_reducible apply rv_ixT) <;> first | assumption | exact rfl | skip)
  | ((with_reducible apply ev_fld) <;> first | walk_at "ev" | assumption | exact rfl | skip)
  | ((with_reducible apply ev_len) <;> first | walk_at "ev" | assumption | skip)
  | ((with_reducible apply ev_lenT) <;> first | walk_at "ev" | assumption | skip)
  | exact rv_eq rfl
  | exact rv_ne rfl
  | assumption
  | skip)
abbrev ownL (ia sh : Addr) (c : Re) : List V := [.ref ia, .ref sh, .ref c.bag, .ref c.up, .ref c.notes, .ref c.missed, .ref c.kept]
structure OwnOk (H : Hp) (nt : Addr) (c : Re) (ia sh : Addr) (s : Sh) (ins : List Int) : Prop where
  nt : H nt = some (.lst (ownL ia sh c))
  sh : ShapeAt H sh s
  i : H ia = some (.tup (ins.map V.int))
  ok : s.Ok
  n3 : 3 ≤ ins.length
  n5 : ins.length ≤ 5
  io : ∀ i, i < ins.length → (ins.getD i 0).natAbs < 2 ^ 64
theorem OwnOk.ex {H H' : Hp} {nt : Addr} {c : Re} {ia sh : Addr} {s : Sh} {ins : List Int} (h : OwnOk H nt c ia sh s ins) (e : Ex H H') : OwnOk H' nt c ia sh s ins :=
  ⟨e _ _ h.nt, e _ _ h.sh, e _ _ h.i, h.ok, h.n3, h.n5, h.io⟩
structure OwnW (Hs H : Hp) (nt : Addr) (c : Re) (ia sh : Addr) (s : Sh) (ins : List Int) (S : NS) : Prop where
  ex : Ex Hs H
  st : OwnOk Hs nt c ia sh s ins
  free : ∀ a, c.Fp ins.length a → Hs a = none
  net : NetAt H ins.length c S
section
variable {Hs H H' : Hp} {nt : Addr} {c c' : Re} {ia sh : Addr} {s : Sh} {ins : List Int} {S S' : NS} {K : PySem.W.Frag} {σ : L2.St} {ta tb : TE}
theorem OwnW.so (h : OwnW Hs H nt c ia sh s ins S) : OwnOk H nt c ia sh s ins := h.st.ex h.ex
theorem OwnW.exx (h : OwnW Hs H nt c ia sh s ins S) (e : Ex H H') : OwnW Hs H' nt c ia sh s ins S := ⟨h.ex.trans e, h.st, h.free, h.net.exx e⟩
theorem OwnW.exf {M : Addr → Prop} (h : OwnW Hs H nt c ia sh s ins S) (e : Fr M H H') (k : ∀ a, M a → c.Fp ins.length a) : Ex Hs H' :=
  fun a o q => e a o (h.ex a o q) fun z => by
    rw [h.free a (k a z)] at q
    cases q
theorem Go.ownW (h : OwnW Hs H nt c ia sh s ins S) (g : Go ins.length c H c' H' S') : OwnW Hs H' nt c' ia sh s ins S' := by
  refine ⟨h.exf g.fr fun _ z => z, ?_, fun a z => ?_, g.net⟩
  · rw [g.eq]
    exact ⟨h.st.nt, h.st.sh, h.st.i, h.st.ok, h.st.n3, h.st.n5, h.st.io⟩
  · rcases g.sub a z with q | q
    · exact h.free a q
    · exact fresh_back h.ex q
/-- the j-th of the own net's list -/
theorem ev_own {j : Nat} {v : V} (h : OwnOk H nt c ia sh s ins) (ha : Ev ta σ H (.ref nt)) (lk : (ownL ia sh c)[j]? = some v) : Ev (tOp (rIxL K) ta (tC (.int (j : Nat)))) σ H v := ev_op ha ev_c (rv_ixL (sq_of h.nt) (atI_nat lk))
/-- len(net[0]) -/
theorem ev_many (h : OwnOk H nt c ia sh s ins) (ha : Ev ta σ H (.ref nt)) : Ev (tCB (rLenS K) (tCons (tOp (rIxL K) ta (tC (.int 0))) tNil)) σ H (.int (ins.length : Nat)) := by
  have len : (ins.map V.int).length = ins.length := List.length_map _
  have := ev_lenT (K := K) (ev_own (K := K) (j := 0) h ha rfl) (st_of h.i)
  rw [len] at this
  exact this
/-- net[1][0] -/
theorem ev_rounds (h : OwnOk H nt c ia sh s ins) (ha : Ev ta σ H (.ref nt)) : Ev (tOp (rIxL K) (tOp (rIxL K) ta (tC (.int 1))) (tC (.int 0))) σ H (.int (s.rounds : Nat)) := ev_op (ev_own (K := K) (j := 1) h ha rfl) ev_c (rv_ixL h.sh.sq (atI_nat (j := 0) rfl))
/-- len(net[5][me]) -/
theorem ev_done {me : Nat} (h : OwnOk H nt c ia sh s ins) (N : NetAt H ins.length c S) (hm : me < ins.length) (ha : Ev ta σ H (.ref nt)) (hb : Ev tb σ H (.int (me : Nat))) : Ev (tCB (rLenS K) (tCons (tOp (rIxL K) (tOp (rIxL K) ta (tC (.int 5))) tb) tNil)) σ H (.int (S.done me : Nat)) := by
  have len : ((S.miss me).map oV).length = S.done me := List.length_map _
  have := ev_len (K := K) (ev_ixr (K := K) N.missed hm (ev_own (K := K) (j := 5) h ha rfl) hb) (sq_of (N.mi me hm))
  rw [len] at this
  exact this
end
def sp__law_write (W : Wd) : GS := fun vs H Q => ∃ (Hs : Hp) (nt : Addr) (c : Re) (ia sh : Addr) (s : Sh) (ins : List Int) (S : NS) (me r : Nat), vs = [.ref nt, .int me, .int r] ∧ OwnW Hs H nt c ia sh s ins S ∧ me < ins.length ∧ r ≤ S.done me ∧ S.bag.length ≤ 90000 ∧
  ∀ H', Fr (fun a => a = c.bag) H H' → NetAt H' ins.length c (wroteS S ins.length me r) → Q .non H'
abbrev N__law_write : List Str := ["_law_net_here", "_law_me", "_law_number", "_law_other"]
theorem sc__law_write : FnScope N__law_write ["_law_net_here", "_law_me", "_law_number"] (defScope s_law_write) := ⟨rfl, rfl, rfl, by decide +kernel, rfl, by decide +kernel, by decide +kernel⟩
theorem C__law_write {W : Wd} (T : TopW W) : Cal W "_law_write" 1 (sp__law_write W) := by
  refine cal_mk T (d := d_law_write) (ps := ["_law_net_here", "_law_me", "_law_number"]) 52 44 rfl rfl rfl rfl rfl fun f fd F => ⟨fng_of F sc__law_write (fun vs H Q h => ?_) (fun cdv A outer s H vs Q hr hg h => ?_), F.bindsN fun _ _ _ _ _ _ us hl => match us, hl with | [_, _, _], _ => rfl⟩
  · obtain ⟨Hs, nt, c, ia, sh, s, ins, S, me, r, h0, OW, hm, hrd, hb, q⟩ := h
    first | rfl | (subst h0; rfl)
  · have hu := hu_of hr
    have nd := sc__law_write.nd
    obtain ⟨Hs, nt, c, ia, sh, s, ins, S, me, r, h0, OW, hm, hrd, hb, q⟩ := h
    try subst h0
    refine ⟨_, (pss_one (ps_for PassesOwn.never rfl (pi_range1 rfl T.free_range (pa_cons (pe_callB (cr_lenk (K := W.K) rfl) rfl T.free_len boot_len (pa_cons (pe_ixlk (K := W.K) rfl (pv 0) pe_int (fun _ _ => rfl)) pa_nil)) pa_nil)) (pg_name (i := 3) nd rfl (Or.inl rfl)) (pss_one (ps_if (pt_cmpR op_ne (pv 3) (pv 1) (nomark _)) (pss_one (ps_expr (pe_bm PySem.F.plainAttrs_list PySem.F.slot_list_append PySem.F.type_list_append mt_append (pe_ixlk (K := W.K) rfl (pv 0) pe_int (fun _ _ => rfl)) (pa_cons (pe_tup (pa_cons (pv 3) (pa_cons (pv 1) (pa_cons (pv 2) (pa_cons (pe_ixlk (K := W.K) rfl (pe_ixlk (K := W.K) rfl (pe_ixlk (K := W.K) rfl (pv 0) pe_int (fun _ _ => rfl)) (pv 1) (fun _ _ => rfl)) (pv 2) (fun _ _ => rfl)) pa_nil))))) pa_nil)))) pss_nil)))), ?_⟩
    have N := OW.net
    have n5 := OW.st.n5
    refine s_forR1 (n := (ins.length : Nat)) (ea_cons (ev_many OW.so (ev_var rfl)) ea_nil) ⟨by omega, by omega⟩
      (fun i σ' H' => Fr (fun a => a = c.bag) H H' ∧ NetAt H' ins.length c { S with bag := S.bag ++ lets i me r } ∧ ∃ y : Option V, σ' = [some (.ref nt), some (.int me), some (.int r), y]) (fun H2 e2 => ⟨Fr.ex e2, ?_, none, rfl⟩) ?_ ?_
    · have : lets 0 me r = [] := rfl
      rw [this, List.append_nil]
      exact N.exx e2
    · rintro i σ' H2 hi ⟨f2, N2, _, rfl⟩
      have hs2 := OW.exf f2 fun a z => .inl z
      have so2 := OW.st.ex hs2
      have hle := lets_le (n := i) (me := me) (r := r)
      refine s_when (b := decide (i ≠ me)) (et_test (ev_is (ev_op (ev_var rfl) (ev_var rfl) (rv_ne rfl)) (by rw [nat_ne_dec]))) (fun h H3 e3 => ?_) fun h H3 e3 => ?_
      · obtain ⟨ls, b1, b2, b3⟩ := N2.bag
        have b2 : ls.length = (S.bag ++ lets i me r).length := b2
        rw [List.length_append] at b2
        obtain ⟨vs, v1, v2, v3⟩ := N2.no me hm
        have v2 : vs.length = S.done me + 1 := v2
        have hrl : r < vs.length := by omega
        have hx : vs[r]? = some vs[r] := by simp [hrl]
        have hmd := v3 r _ hx
        have so3 := so2.ex e3
        refine s_appU (e3 _ _ b1) (ev_own (j := 2) so3 (ev_var rfl) rfl) (eu_tup (vs := [.int (i : Nat), .int (me : Nat), .int (r : Nat), vs[r]]) (ea_cons (ev_var rfl) (ea_cons (ev_var rfl) (ea_cons (ev_var rfl) (ea_cons (ev_op (ev_ixr (e3 _ _ N2.notes) hm (ev_own (j := 4) so3 (ev_var rfl) rfl) (ev_var rfl)) (ev_var rfl) (rv_ixL (sq_of (e3 _ _ v1)) (atI_nat hx))) ea_nil)))) (by simp)) (by omega) fun p H4 hp e4 hp4 => ?_
        have := N2.letter (to := i) (me := me) (r := r) b1 (e3.trans e4) hp4 hmd
        rw [List.append_assoc] at this
        have h4 := (e3.trans e4) _ _ b1
        refine ⟨fun a o ha z => (upd_ne z).trans ((e3.trans e4) _ _ (f2 a o ha z)), ?_, _, rfl⟩
        rw [lets_succ, if_neg (of_decide_eq_true h)]
        exact this
      · refine ⟨f2.trans (Fr.ex e3), ?_, _, rfl⟩
        have : i = me := by simpa using h
        rw [lets_succ, if_pos this]
        exact N2.exx e3
    · rintro σ' H2 ⟨f2, N2, _⟩
      exact q H2 f2 N2
def sp__law_lacks (W : Wd) : GS := fun vs H Q => ∃ (nt : Addr) (c : Re) (ia sh : Addr) (s : Sh) (ins : List Int) (S : NS) (me : Nat), vs = [.ref nt, .int me] ∧ OwnOk H nt c ia sh s ins ∧ NetAt H ins.length c S ∧ me < ins.length ∧
  ∀ p H', H p = none → Ex H H' → H' p = some (.lst ((lacksS S ins.length me).map fun o => .int (o : Nat))) → Q (.ref p) H'
abbrev N__law_lacks : List Str := ["_law_net_here", "_law_me", "_law_here", "_law_other"]
theorem sc__law_lacks : FnScope N__law_lacks ["_law_net_here", "_law_me"] (defScope s_law_lacks) := ⟨rfl, rfl, rfl, by decide +kernel, rfl, by decide +kernel, by decide +kernel⟩
theorem C__law_lacks {W : Wd} (T : TopW W) : Cal W "_law_lacks" 1 (sp__law_lacks W) := by
  refine cal_mk T (d := d_law_lacks) (ps := ["_law_net_here", "_law_me"]) 54 46 rfl rfl rfl rfl rfl fun f fd F => ⟨fng_of F sc__law_lacks (fun vs H Q h => ?_) (fun cdv A outer s H vs Q hr hg h => ?_), F.bindsN fun _ _ _ _ _ _ us hl => match us, hl with | [_, _], _ => rfl⟩
  · obtain ⟨nt, c, ia, sh, s, ins, S, me, h0, so, N, hm, q⟩ := h
    first | rfl | (subst h0; rfl)
  · have hu := hu_of hr
    have nd := sc__law_lacks.nd
    obtain ⟨nt, c, ia, sh, s, ins, S, me, h0, so, N, hm, q⟩ := h
    try subst h0
    refine ⟨_, (pss_cons (ps_set (i := 2) nd rfl (Or.inr rfl) (pe_callB (cr_lenk (K := W.K) rfl) rfl T.free_len boot_len (pa_cons (pe_ixlk (K := W.K) rfl (pe_ixlk (K := W.K) rfl (pv 0) pe_int (fun _ _ => rfl)) (pv 1) (fun _ _ => rfl)) pa_nil))) (pss_one (ps_ret (pe_lc (own := [("_law_other", 3)]) rfl nd (pi_range1 rfl T.free_range (pa_cons (pe_callB (cr_lenk (K := W.K) rfl) rfl T.free_len boot_len (pa_cons (pe_ixlk (K := W.K) rfl (pv 0) pe_int (fun _ _ => rfl)) pa_nil)) pa_nil)) (blkOk_by (own := [("_law_other", 3)]) (N := N__law_lacks) (sc := defScope s_law_lacks) (by decide +kernel)) (fun _ _ _ _ _ => (pg_name (i := 3) nd rfl (Or.inl rfl))) (fun _ _ _ _ _ => (pts_one (PW.pt (pw_and (pt_cmpR op_ne (pv 3) (pv 1) (nomark _)) (pw_and1 (pt_cmp (pc_dnotin hu (pe_tup (pa_cons (pv 2) (pa_cons (pv 3) pa_nil))) (pe_ixlk (K := W.K) rfl (pe_ixlk (K := W.K) rfl (pv 0) pe_int (fun _ _ => rfl)) (pv 1) (fun _ _ => rfl))) rfl)))))) (fun _ _ _ _ _ => (pv 3)))))), ?_⟩
    refine q_asg (v := .int (S.done me : Nat)) (ev_done so N hm (ev_var rfl) (ev_var rfl)) fun H1 e1 => ?_
    have so1 := so.ex e1
    have N1 := N.exx e1
    obtain ⟨kvs, hk1, hk2, hk3⟩ := N1.ke me hm
    have n5 := so.n5
    have hL : lacksS S ins.length me = (List.range ins.length).filter fun o => decide (o ≠ me) && !(valV kvs (k2 (S.done me) o)).isSome := by
      unfold lacksS
      refine List.filter_congr fun o _ => ?_
      rw [hk3.in]
    refine s_retL (xs := (lacksS S ins.length me).map fun o => .int (o : Nat)) ?_ fun p H2 hp e2 h2 => q p H2 (fresh_back e1 hp) (e1.trans e2) h2
    rw [hL, ← given_ints]
    refine el_lcR1 (n := (ins.length : Nat)) (fun o => decide (o ≠ me) && !(valV kvs (k2 (S.done me) o)).isSome) (fun i => V.int (i : Nat)) (ea_cons (ev_many so1 (ev_var rfl)) ea_nil) ⟨by omega, by omega⟩ (fun _ => rfl) ?_ ?_
    · intro i H2 e2 hi
      have so2 := so1.ex e2
      have N2 := N1.exx e2
      refine et_and (et_test (ev_is (ev_op (ev_var rfl) (ev_var rfl) (rv_ne rfl)) (by rw [nat_ne_dec]))) fun _ => et_B (ev_dni (ev_ixr N2.kept hm (ev_own (j := 6) so2 (ev_var rfl) rfl) (ev_var rfl)) (e2 _ _ hk1) (eu_tup (by walk_at "ev") (by simp)))
    · intro i H2 e2 hi _
      exact ev_var rfl
def sp__law_can (W : Wd) : GS := fun vs H Q => ∃ (nt : Addr) (c : Re) (ia sh : Addr) (s : Sh) (ins : List Int) (S : NS) (w : Wo) (k : Nat), vs = [.ref nt, .str w.str, .int k] ∧ OwnOk H nt c ia sh s ins ∧ NetAt H ins.length c S ∧ (∀ l ∈ S.bag, l.1 < ins.length) ∧ Ret (MP.eq (.bl (canS s S ins.length w (k : Int)))).p H Q
theorem wo_fa (w : Wo) : inV (.str w.str) [V.str "fall", V.str "again"] = decide (w = .fall ∨ w = .again) := by cases w <;> decide +kernel
theorem ev_lt0 {σ : L2.St} {H : Hp} {i k : Nat} (h : σ[i]? = some (some (.int (k : Nat)))) : EvT (tTest (tOp (rI0 fun i j => V.bl (decide (i < j))) (tVar i) (tC (V.int 0)))) σ H false :=
  et_is (et_test (ev_op (ev_var h) ev_c rv_I0)) (decide_eq_false (by omega))
theorem canS_come {s : Sh} {S : NS} {n k : Nat} : canS s S n .come (k : Int) = (decide (k < S.bag.length) && upOf S k) := by
  have h1 : decide (0 ≤ (k : Int)) = true := decide_eq_true (by omega)
  have h2 : decide ((k : Int) < (S.bag.length : Int)) = decide (k < S.bag.length) := nat_lt_dec
  simp only [canS, h1, h2, Bool.true_and, Int.toNat_natCast]
theorem canS_double {s : Sh} {S : NS} {n k : Nat} : canS s S n .double (k : Int) = decide (k < S.bag.length) := by
  have h1 : decide (0 ≤ (k : Int)) = true := decide_eq_true (by omega)
  have h2 : decide ((k : Int) < (S.bag.length : Int)) = decide (k < S.bag.length) := nat_lt_dec
  simp only [canS, h1, h2, Bool.true_and]
theorem canS_mach {s : Sh} {S : NS} {n k : Nat} {w : Wo} (hw : ¬ (w = .come ∨ w = .double)) : canS s S n w (k : Int) = (decide (k < n) && if w = .rise ∨ S.up k = false then decide (w = .rise) && !S.up k else if w = .go then decide (S.done k < s.rounds) && decide ((lacksS S n k).length ≤ 1) else decide (w = .fall ∨ w = .again)) := by
  have h1 : decide (0 ≤ (k : Int)) = true := decide_eq_true (by omega)
  have h2 : decide ((k : Int) < (n : Int)) = decide (k < n) := nat_lt_dec
  cases w <;> simp only [canS, h1, h2, Bool.true_and, Int.toNat_natCast]
  · exact absurd (.inl rfl) hw
  · exact absurd (.inr rfl) hw
  all_goals cases hu : S.up k <;> simp
theorem nat_le_dec {a b : Nat} : decide ((a : Int) ≤ (b : Int)) = decide (a ≤ b) := decide_eq_decide.2 Int.ofNat_le
abbrev N__law_can : List Str := ["_law_net_here", "_law_word", "_law_number"]
theorem sc__law_can : FnScope N__law_can ["_law_net_here", "_law_word", "_law_number"] (defScope s_law_can) := ⟨rfl, rfl, rfl, by decide +kernel, rfl, by decide +kernel, by decide +kernel⟩
theorem C__law_can {W : Wd} (T : TopW W) : Cal W "_law_can" 2 (sp__law_can W) := by
  have C__law_lacks := C__law_lacks T
  refine cal_mk T (d := d_law_can) (ps := ["_law_net_here", "_law_word", "_law_number"]) 55 47 rfl rfl rfl rfl rfl fun f fd F => ⟨fng_of F sc__law_can (fun vs H Q h => ?_) (fun cdv A outer s H vs Q hr hg h => ?_), F.bindsN fun _ _ _ _ _ _ us hl => match us, hl with | [_, _, _], _ => rfl⟩
  · obtain ⟨nt, c, ia, sh, s, ins, S, w, k, h0, so, N, hbl, q⟩ := h
    first | rfl | (subst h0; rfl)
  · have hu := hu_of hr
    have nd := sc__law_can.nd
    obtain ⟨nt, c, ia, sh, s, ins, S, w, k, h0, so, N, hbl, q⟩ := h
    try subst h0
    refine ⟨_, (pss_cons (ps_if (pt_cmpR (op_inSk (K := W.K) rfl) (pv 1) (pe_tup (pa_cons pe_str (pa_cons pe_str pa_nil))) rfl) (pss_cons (ps_if (PW.pt (pw_or (pt_cmpR op_lt (pv 2) pe_int (nomark _)) (pw_or1 (pt_cmpR op_ge (pv 2) (pe_callB (cr_lenk (K := W.K) rfl) rfl T.free_len boot_len (pa_cons (pe_ixlk (K := W.K) rfl (pv 0) pe_int (fun _ _ => rfl)) pa_nil)) (nomark _))))) (pss_one (ps_ret pe_bl)) pss_nil) (pss_one (ps_ret (pe_or (pe_cmpR op_eq (pv 1) pe_str (nomark _)) (pe_one (pe_ixlk (K := W.K) rfl (pe_ixlk (K := W.K) rfl (pv 0) pe_int (fun _ _ => rfl)) (pe_ixtk (K := W.K) rfl (pe_ixlk (K := W.K) rfl (pe_ixlk (K := W.K) rfl (pv 0) pe_int (fun _ _ => rfl)) (pv 2) (fun _ _ => rfl)) pe_int (fun _ _ => rfl)) (fun _ _ => rfl))))))) pss_nil) (pss_cons (ps_if (PW.pt (pw_or (pt_cmpR op_lt (pv 2) pe_int (nomark _)) (pw_or1 (pt_cmpR op_ge (pv 2) (pe_callB (cr_lenk (K := W.K) rfl) rfl T.free_len boot_len (pa_cons (pe_ixlk (K := W.K) rfl (pv 0) pe_int (fun _ _ => rfl)) pa_nil)) (nomark _))))) (pss_one (ps_ret pe_bl)) pss_nil) (pss_cons (ps_if (PW.pt (pw_or (pt_cmpR op_eq (pv 1) pe_str (nomark _)) (pw_or1 (pt_not (pt_val (pe_ixlk (K := W.K) rfl (pe_ixlk (K := W.K) rfl (pv 0) pe_int (fun _ _ => rfl)) (pv 2) (fun _ _ => rfl))))))) (pss_one (ps_ret (pe_and (pe_cmpR op_eq (pv 1) pe_str (nomark _)) (pe_one (pe_not (pe_ixlk (K := W.K) rfl (pe_ixlk (K := W.K) rfl (pv 0) pe_int (fun _ _ => rfl)) (pv 2) (fun _ _ => rfl))))))) pss_nil) (pss_cons (ps_if (pt_cmpR op_eq (pv 1) pe_str (nomark _)) (pss_one (ps_ret (pe_and (pe_cmpR op_lt (pe_callB (cr_lenk (K := W.K) rfl) rfl T.free_len boot_len (pa_cons (pe_ixlk (K := W.K) rfl (pe_ixlk (K := W.K) rfl (pv 0) pe_int (fun _ _ => rfl)) (pv 2) (fun _ _ => rfl)) pa_nil)) (pe_ixlk (K := W.K) rfl (pe_ixlk (K := W.K) rfl (pv 0) pe_int (fun _ _ => rfl)) pe_int (fun _ _ => rfl)) (nomark _)) (pe_one (pe_cmpR op_le (pe_callB (cr_lenk (K := W.K) rfl) rfl T.free_len boot_len (pa_cons (pe_cal C__law_lacks rfl hr (by decide) hg rfl (pa_cons (pv 0) (pa_cons (pv 2) pa_nil))) pa_nil)) pe_int (nomark _)))))) pss_nil) (pss_one (ps_ret (pe_cmpR (op_inSk (K := W.K) rfl) (pv 1) (pe_tup (pa_cons pe_str (pa_cons pe_str pa_nil))) rfl))))))), ?_⟩
    have wd : ∀ (v : Wo) {H' : Hp} {σ : L2.St}, σ[1]? = some (some (.str w.str)) → Ev (tOp rEq (tVar 1) (tC (.str v.str))) σ H' (.bl (decide (w = v))) := fun v H' σ h => ev_is (ev_op (ev_var h) ev_c (rv_eq rfl)) (congrArg V.bl (wo_dec w v))
    by_cases hw : w = .come ∨ w = .double
    · refine q_when (b := true) (et_is (et_test (ev_inU (ev_var rfl) (eu_tup (vs := [.str "come", .str "double"]) (by walk_at "ev") (by simp)) rfl rfl)) (by rw [wo_l]; exact decide_eq_true hw)) (fun _ H1 e1 => ?_) fun h => by cases h
      have so1 := so.ex e1
      have N1 := N.exx e1
      obtain ⟨ls, b1, b2, b3⟩ := N1.bag
      refine q_when (b := decide (S.bag.length ≤ k)) (et_is (et_or (ev_lt0 rfl) fun _ => et_test (ev_op (ev_var rfl) (ev_len (ev_own (j := 2) so1 (ev_var rfl) rfl) (sq_of b1)) rv_I0)) (by rw [Bool.false_or, nat_le_dec, b2])) (fun h H2 e2 => ?_) fun h H2 e2 => ?_
      · have hge := of_decide_eq_true h
        have cf : canS s S ins.length w (k : Int) = false := by
          rcases hw with rfl | rfl
          · rw [canS_come, decide_eq_false (by omega), Bool.false_and]
          · rw [canS_double, decide_eq_false (by omega)]
        rw [cf] at q
        exact s_retE ev_c fun v H3 e3 p => q v H3 ((e1.trans e2).trans e3) p
      · have hk : k < S.bag.length := by have := of_decide_eq_false h; omega
        refine s_retE (v := .bl (canS s S ins.length w (k : Int))) ?_ fun v H3 e3 p => q v H3 ((e1.trans e2).trans e3) p
        by_cases hd : w = .double
        · subst hd
          rw [canS_double, decide_eq_true hk]
          exact ev_is (ev_orV (a := true) (b := true) (ev_is (wd .double rfl) (congrArg V.bl (decide_eq_true rfl))) fun h => by cases h) rfl
        · have hco : w = .come := hw.resolve_right hd
          subst hco
          have hS : S.bag[k]? = some S.bag[k] := by simp [hk]
          have kl : k < ls.length := by omega
          have hL : ls[k]? = some ls[k] := by simp [kl]
          obtain ⟨p, m, hp1, hp2, hp3⟩ := b3 k _ _ hL hS
          have hL := hL.trans (congrArg some hp1)
          have hup : upOf S k = S.up S.bag[k].1 := by unfold upOf; rw [hS]
          have hm := hbl _ (List.getElem_mem hk)
          rw [canS_come, decide_eq_true hk, Bool.true_and, hup]
          have so2 := so1.ex e2
          refine ev_is (ev_orV (a := false) (ev_is (wd .double rfl) (congrArg V.bl (decide_eq_false (by decide)))) fun _ => ?_) (congrArg V.bl (Bool.false_or _))
          exact ev_ixm (f := fun i => .bl (S.up i)) (e2 _ _ N1.up) hm (ev_own (j := 3) so2 (ev_var rfl) rfl) (ev_op (ev_op (ev_own (j := 2) so2 (ev_var rfl) rfl) (ev_var rfl) (rv_ixL (sq_of (e2 _ _ b1)) (atI_nat hL))) ev_c (rv_ixT (st_of (e2 _ _ hp2)) rfl))
    · refine q_when (b := false) (et_is (et_test (ev_inU (ev_var rfl) (eu_tup (vs := [.str "come", .str "double"]) (by walk_at "ev") (by simp)) rfl rfl)) (by rw [wo_l]; exact decide_eq_false hw)) (fun h => by cases h) fun _ H1 e1 => ?_
      have so1 := so.ex e1
      have N1 := N.exx e1
      rw [canS_mach hw] at q
      refine q_when (b := decide (ins.length ≤ k)) (et_is (et_or (ev_lt0 rfl) fun _ => et_test (ev_op (ev_var rfl) (ev_many so1 (ev_var rfl)) rv_I0)) (by rw [Bool.false_or, nat_le_dec])) (fun h H2 e2 => ?_) fun h H2 e2 => ?_
      · have hge := of_decide_eq_true h
        rw [decide_eq_false (show ¬ k < ins.length by omega), Bool.false_and] at q
        exact s_retE ev_c fun v H3 e3 p => q v H3 ((e1.trans e2).trans e3) p
      · have hk : k < ins.length := by have := of_decide_eq_false h; omega
        rw [decide_eq_true hk, Bool.true_and] at q
        have so2 := so1.ex e2
        have N2 := N1.exx e2
        have e02 := e1.trans e2
        have upv : ∀ {H5 : Hp} {σ : L2.St}, Ex H2 H5 → σ[0]? = some (some (.ref nt)) → σ[2]? = some (some (.int (k : Nat))) → Ev (tOp (rIxL W.K) (tOp (rIxL W.K) (tVar 0) (tC (.int 3))) (tVar 2)) σ H5 (.bl (S.up k)) := fun e5 a b =>
          ev_ixm (f := fun i => .bl (S.up i)) (e5 _ _ N2.up) hk (ev_own (j := 3) (so2.ex e5) (ev_var a) rfl) (ev_var b)
        refine q_when (b := decide (w = .rise) || !S.up k) (et_or (et_test (wd .rise rfl)) fun _ => et_not (et_B (upv (Ex.refl _) rfl rfl))) (fun h H3 e3 => ?_) fun h H3 e3 => ?_
        · have hc : w = .rise ∨ S.up k = false := by
            rw [Bool.or_eq_true] at h
            exact h.imp of_decide_eq_true (fun z => by simpa using z)
          rw [if_pos hc] at q
          exact s_retE (ev_andV (wd .rise rfl) fun _ => ev_notV (upv e3 rfl rfl)) fun v H4 e4 p => q v H4 ((e02.trans e3).trans e4) p
        · have hc : ¬ (w = .rise ∨ S.up k = false) := fun z => by
            rw [Bool.or_eq_false_iff] at h
            rcases z with z | z
            · exact of_decide_eq_false h.1 z
            · rw [z] at h
              cases h.2
          rw [if_neg hc] at q
          have so3 := so2.ex e3
          have N3 := N2.exx e3
          refine q_when (b := decide (w = .go)) (et_test (wd .go rfl)) (fun h H4 e4 => ?_) fun h H4 e4 => ?_
          · rw [if_pos (of_decide_eq_true h)] at q
            refine s_retE (v := .bl (decide (S.done k < s.rounds) && decide ((lacksS S ins.length k).length ≤ 1))) (ev_andV (ev_is (ev_op (ev_done (so3.ex e4) (N3.exx e4) hk (ev_var rfl) (ev_var rfl)) (ev_rounds (so3.ex e4) (ev_var rfl)) rv_I0) (congrArg V.bl nat_lt_dec)) fun _ => ev_is (ev_op (ev_lenN (xs := (lacksS S ins.length k).map fun o => .int (o : Nat)) fun H5 e Q kq => ⟨_, rfl, _, rfl, nt, c, ia, sh, s, ins, S, k, rfl, (so3.ex e4).ex e, (N3.exx e4).exx e, hk, kq⟩) ev_c rv_I0) ?_) fun v H5 e5 p => q v H5 (((e02.trans e3).trans e4).trans e5) p
            show V.bl (decide ((((lacksS S ins.length k).map fun o => V.int (o : Nat)).length : Int) ≤ 1)) = _
            rw [List.length_map]
            exact congrArg V.bl (decide_eq_decide.2 (by omega))
          · rw [if_neg (of_decide_eq_false h)] at q
            exact s_retE (ev_is (ev_inU (ev_var rfl) (eu_tup (vs := [.str "fall", .str "again"]) (by walk_at "ev") (by simp)) rfl rfl) (congrArg V.bl (wo_fa w))) fun v H5 e5 p => q v H5 (((e02.trans e3).trans e4).trans e5) p
def sp__law_go (W : Wd) : GS := fun vs H Q => ∃ (Hs : Hp) (nt : Addr) (c : Re) (ia sh : Addr) (s : Sh) (ins : List Int) (S : NS) (me : Nat), vs = [.ref nt, .int me] ∧ OwnW Hs H nt c ia sh s ins S ∧ InvS s ins.length ins S ∧ me < ins.length ∧ S.done me < s.rounds ∧ (lacksS S ins.length me).length ≤ 1 ∧ S.t < 80000 ∧ S.bag.length ≤ 80000 ∧
  ∀ H', Fr (c.Fp ins.length) H H' → NetAt H' ins.length c (goS s S ins.length me) → Q .non H'
theorem q_par3 {σ : L2.St} {H : Hp} {tz : TS} {D : Ends} {i j l : Nat} {ta : TA} {P : List V → Hp → Prop} (h : EvAP ta σ H P) (k : ∀ vs H1, Ex H H1 → P vs H1 → ∃ u v w, vs = [u, v, w] ∧ tz D (((σ.set i (some u)).set j (some v)).set l (some w)) H1) : tSeq (tPar3 i j l ta) tz D σ H := h H (Ex.refl H) _ k
abbrev N__law_go : List Str := ["_law_net_here", "_law_me", "_law_here", "_law_lacks_here", "_law_heard", "_law_other"]
theorem sc__law_go : FnScope N__law_go ["_law_net_here", "_law_me"] (defScope s_law_go) := ⟨rfl, rfl, rfl, by decide +kernel, rfl, by decide +kernel, by decide +kernel⟩
theorem C__law_go {W : Wd} (T : TopW W) : Cal W "_law_go" 2 (sp__law_go W) := by
  have C__law_lacks := C__law_lacks T
  have C__law_step := C__law_step T
  have C__law_write := C__law_write T
  refine cal_mk T (d := d_law_go) (ps := ["_law_net_here", "_law_me"]) 56 48 rfl rfl rfl rfl rfl fun f fd F => ⟨fng_of F sc__law_go (fun vs H Q h => ?_) (fun cdv A outer s H vs Q hr hg h => ?_), F.bindsN fun _ _ _ _ _ _ us hl => match us, hl with | [_, _], _ => rfl⟩
  · obtain ⟨Hs, nt, c, ia, sh, s, ins, S, me, h0, OW, I, hm, hrd, hlk, ht, hbz, q⟩ := h
    first | rfl | (subst h0; rfl)
  · have hu := hu_of hr
    have nd := sc__law_go.nd
    obtain ⟨Hs, nt, c, ia, sh, s, ins, S, me, h0, OW, I, hm, hrd, hlk, ht, hbz, q⟩ := h
    try subst h0
    refine ⟨_, (pss_cons (ps_par3 (i := 2) (j := 3) (l := 4) rfl nd rfl rfl rfl (by decide) (by decide) (by decide) rfl rfl rfl (pa_cons (pe_callB (cr_lenk (K := W.K) rfl) rfl T.free_len boot_len (pa_cons (pe_ixlk (K := W.K) rfl (pe_ixlk (K := W.K) rfl (pv 0) pe_int (fun _ _ => rfl)) (pv 1) (fun _ _ => rfl)) pa_nil)) (pa_cons (pe_cal C__law_lacks rfl hr (by decide) hg rfl (pa_cons (pv 0) (pa_cons (pv 1) pa_nil))) (pa_cons (pe_lst pa_nil) pa_nil))) rfl) (pss_cons (ps_for PassesOwn.never rfl (pi_range1 rfl T.free_range (pa_cons (pe_callB (cr_lenk (K := W.K) rfl) rfl T.free_len boot_len (pa_cons (pe_ixlk (K := W.K) rfl (pv 0) pe_int (fun _ _ => rfl)) pa_nil)) pa_nil)) (pg_name (i := 5) nd rfl (Or.inl rfl)) (pss_one (ps_expr (pe_bm PySem.F.plainAttrs_list PySem.F.slot_list_append PySem.F.type_list_append mt_append (pv 4) (pa_cons (pe_ifExp (pt_cmpR op_eq (pv 5) (pv 1) (nomark _)) (pe_ixlk (K := W.K) rfl (pe_ixlk (K := W.K) rfl (pe_ixlk (K := W.K) rfl (pv 0) pe_int (fun _ _ => rfl)) (pv 1) (fun _ _ => rfl)) (pv 2) (fun _ _ => rfl)) (pe_dget1 hu (pe_ixlk (K := W.K) rfl (pe_ixlk (K := W.K) rfl (pv 0) pe_int (fun _ _ => rfl)) (pv 1) (fun _ _ => rfl)) (pe_tup (pa_cons (pv 2) (pa_cons (pv 5) pa_nil))) ⟨rfl, rfl, rfl, rfl⟩)) pa_nil))))) (pss_cons (ps_expr (pe_bm PySem.F.plainAttrs_list PySem.F.slot_list_append PySem.F.type_list_append mt_append (pe_ixlk (K := W.K) rfl (pe_ixlk (K := W.K) rfl (pv 0) pe_int (fun _ _ => rfl)) (pv 1) (fun _ _ => rfl)) (pa_cons (pe_cal C__law_step rfl hr (by decide) hg rfl (pa_cons (pe_ixlk (K := W.K) rfl (pv 0) pe_int (fun _ _ => rfl)) (pa_cons (pv 1) (pa_cons (pv 2) (pa_cons (pe_callTy (cr_tupk (K := W.K) rfl) rfl T.free_tuple boot_tuple (pa_cons (pv 4) pa_nil)) pa_nil))))) pa_nil))) (pss_cons (ps_expr (pe_bm PySem.F.plainAttrs_list PySem.F.slot_list_append PySem.F.type_list_append mt_append (pe_ixlk (K := W.K) rfl (pe_ixlk (K := W.K) rfl (pv 0) pe_int (fun _ _ => rfl)) (pv 1) (fun _ _ => rfl)) (pa_cons (pe_ifExp (pt_cmpR op_gt (pe_callB (cr_lenk (K := W.K) rfl) rfl T.free_len boot_len (pa_cons (pv 3) pa_nil)) pe_int (nomark _)) (pe_ixlk (K := W.K) rfl (pv 3) pe_int (fun _ _ => rfl)) pe_non) pa_nil))) (pss_one (ps_if (pt_cmpR op_lt (pe_op op_add (pv 2) pe_int) (pe_ixlk (K := W.K) rfl (pe_ixlk (K := W.K) rfl (pv 0) pe_int (fun _ _ => rfl)) pe_int (fun _ _ => rfl)) (nomark _)) (pss_one (ps_expr (pe_cal C__law_write rfl hr (by decide) hg rfl (pa_cons (pv 0) (pa_cons (pv 1) (pa_cons (pe_op op_add (pv 2) pe_int) pa_nil)))))) pss_nil)))))), ?_⟩
    have N := OW.net
    have n5 := OW.st.n5
    have n3 := OW.st.n3
    have dle : S.done me ≤ 12 := by have := OW.st.ok.r; omega
    -- here, lacks, heard
    refine (ev_done OW.so N hm (ev_var rfl) (ev_var rfl)) H (Ex.refl H) _ fun H1 e1 => ?_
    have OW1 := OW.exx e1
    refine ⟨_, rfl, _, rfl, nt, c, ia, sh, s, ins, S, me, rfl, OW1.so, OW1.net, hm, fun lk H2 hlk0 e2 hlk2 => ?_⟩
    refine ⟨Nat.zero_le _, fun l hl0' => ?_⟩
    have enew := Ex.new (o := .lst []) hl0'
    have hl2 : upd H2 l (.lst []) l = some (.lst []) := upd_same
    have hlk3' := enew _ _ hlk2
    have e3' := e2.trans enew
    have hl0 : H1 l = none := fresh_back e2 hl0'
    refine ⟨_, _, _, rfl, ?_⟩
    generalize upd H2 l (.lst []) = H3 at hl2 hlk3' e3'
    have OW3 := OW1.exx e3'
    refine q_forR1 (n := (ins.length : Nat)) (ea_cons (ev_many OW3.so (ev_var rfl)) ea_nil) ⟨by omega, by omega⟩
      (fun i σ' H' => Ex H1 H' ∧ ∃ (acc : List V) (y : Option V), H' l = some (.lst acc) ∧ H' lk = some (.lst ((lacksS S ins.length me).map fun o => .int (o : Nat))) ∧ acc.length = i ∧ (∀ (j : Nat) (v : V), acc[j]? = some v → IsD H' v (heardS S me j)) ∧ σ' = [some (.ref nt), some (.int me), some (.int (S.done me : Nat)), some (.ref lk), some (.ref l), y])
      (fun H4 e4 => ⟨e3'.trans e4, [], none, e4 _ _ hl2, e4 _ _ hlk3', rfl, fun j v z => by simp at z, rfl⟩) ?_ ?_
    · rintro i σ' H4 hi ⟨e4, acc, _, hlacc, hlk4, hlen, hacc, rfl⟩
      have hi : i < ins.length := by omega
      have OW4 := OW1.exx e4
      have N4 := OW4.net
      refine s_appP (P := fun v H => IsD H v (heardS S me i)) hlacc (ev_var rfl) ?_ (by omega) fun v H5 e5 pv => ?_
      · refine ep_if (b := decide (i = me)) (et_is (et_test (ev_op (ev_var rfl) (ev_var rfl) (rv_eq rfl))) nat_eq_dec) (fun h => ?_) fun h => ?_
        · have e : i = me := of_decide_eq_true h
          subst e
          obtain ⟨vs, v1, v2, v3⟩ := N4.no i hm
          have hx : vs[S.done i]? = some (vs[S.done i]'(by omega)) := by simp [v2]
          refine ep_is (ev_op (ev_ixr N4.notes hm (ev_own (j := 4) OW4.so (ev_var rfl) rfl) (ev_var rfl)) (ev_var rfl) (rv_ixL (sq_of v1) (atI_nat hx))) fun H' e' => ?_
          have : heardS S i i = S.note i (S.done i) := by unfold heardS; rw [if_pos rfl]
          rw [this]
          exact (v3 _ _ hx).ex e'
        · have e : i ≠ me := of_decide_eq_false h
          obtain ⟨kvs, k1, k2', k3⟩ := N4.ke me hm
          exact ep_is (ev_dget1 (ev_ixr N4.kept hm (ev_own (j := 6) OW4.so (ev_var rfl) rfl) (ev_var rfl)) k1 (eu_tup (by walk_at "ev") (by simp))) fun H' e' => (heard_val (n := ins.length) (c := c) k3 e).ex e'
      · have hl4 := e5 _ _ hlacc
        have frl : FrT H5 (upd H5 l (.lst (acc ++ [v]))) := FrT.new fun xs q => by rw [hl4] at q; cases q
        have nll : lk ≠ l := fun z => by
          rw [z] at hlk2
          rw [hl0'] at hlk2
          cases hlk2
        refine ⟨(e4.trans e5).mut hl0, acc ++ [v], _, upd_same, (upd_ne nll).trans (e5 _ _ hlk4), by simp [hlen], fun j w z => ?_, rfl⟩
        by_cases hj : j < acc.length
        · rw [List.getElem?_append_left hj] at z
          exact (hacc j w z).up ((Ex.frT e5).trans frl)
        · have hj2 : j = acc.length := by
            have := (List.getElem?_eq_some_iff.1 z).1
            simp at this
            omega
          subst hj2
          simp at z
          subst z
          rw [hlen]
          exact pv.up frl
    · rintro σ' H4 ⟨e4, acc, y3, hlacc, hlk4, hlen, hacc, rfl⟩
      have hlen : acc.length = ins.length := by simpa using hlen
      have OW4 := OW1.exx e4
      obtain ⟨vs, v1, v2, v3⟩ := OW4.net.no me hm
      -- the memory, noted
      refine q_appP (P := (MP.isD (stepD s ins.length me (S.done me) (S.note me (S.done me)) (heardS S me))).p) v1 (ev_ixr OW4.net.notes hm (ev_own (j := 4) OW4.so (ev_var rfl) rfl) (ev_var rfl))
        (ep_call (eap_cons (M := .eq (.ref sh)) (ep_ev (ev_own (j := 1) OW4.so (ev_var rfl) rfl)) (eap_cons (M := .eq (.int (me : Nat))) (ep_ev (ev_var rfl)) (eap_cons (M := .eq (.int (S.done me : Nat))) (ep_ev (ev_var rfl)) (eap_cons (M := .tupX acc) (ep_U (eu_tupL (ev_var rfl) (sq_of hlacc))) eap_nil)))) fun ws H5 e5 hp Q k => ?_) (by omega) fun mv H5 e5 pmv => ?_
      · obtain ⟨_, _, rfl, rfl, _, _, rfl, rfl, _, _, rfl, rfl, _, _, rfl, ⟨hv, rfl, hw⟩, rfl⟩ := hp
        exact ⟨sh, hv, s, ins.length, me, S.done me, S.note me (S.done me), heardS S me, rfl, (OW4.exx e5).so.sh, ⟨acc, hw, hlen, fun j v z => (hacc j v z).ex e5⟩, n5, I.heard hm, OW.st.ok, k⟩
      have OW5 := OW4.exx e5
      have v1' := e5 _ _ v1
      obtain ⟨ρ, R⟩ := OW.net.ro
      generalize hH7 : upd H5 (c.no me) (.lst (vs ++ [mv])) = H7
      have k7 : ∀ a o, H5 a = some o → a ≠ c.no me → H7 a = some o := fun a o h z => by rw [← hH7, upd_ne z]; exact h
      have hs7 : Ex Hs H7 := fun a o h => k7 a o (OW5.ex a o h) fun z => by
        rw [OW.free a (.inr (.inr (.inr (.inr (.inr ⟨me, hm, .inl z⟩)))))] at h
        cases h
      have so7 := OW.st.ex hs7
      have nlk : lk ≠ c.no me := fun z => by
        have h0 := fresh_back e1 hlk0
        rw [z] at h0
        exact OW.net.full _ (.inr (.inr (.inr (.inr (.inr ⟨me, hm, .inl rfl⟩))))) h0
      have lk7 : H7 lk = some (.lst ((lacksS S ins.length me).map fun o => .int (o : Nat))) := k7 _ _ (e5 _ _ hlk4) nlk
      have mi7 := k7 _ _ (OW5.net.mi me hm) (ne_ro (R.mi me hm) (R.no me hm) (by omega))
      have mis7 := k7 _ _ OW5.net.missed (ne_ro R.missed (R.no me hm) (by omega))
      have hmiss : ∀ (a : TE), a = tIf (tTest (tOp (rI0 fun i j => .bl (decide (j < i))) (tCB (rLenS W.K) (tCons (tVar 3) tNil)) (tC (.int 0)))) (tOp (rIxL W.K) (tVar 3) (tC (.int 0))) (tC .non) → Ev a [some (.ref nt), some (.int me), some (.int (S.done me : Nat)), some (.ref lk), some (.ref l), y3] H7 (oV (lacksS S ins.length me).head?) := fun a ha => by
        subst ha
        cases hL : lacksS S ins.length me with
        | nil =>
          rw [hL] at lk7
          exact ev_if (b := false) (et_test (ev_op (ev_len (ev_var rfl) (sq_of lk7)) ev_c rv_I0)) (fun h => by cases h) fun _ => ev_c
        | cons o r =>
          rw [hL] at lk7
          refine ev_if (b := true) (et_test (ev_is (ev_op (ev_len (ev_var rfl) (sq_of lk7)) ev_c rv_I0) (congrArg V.bl (decide_eq_true (by simp))))) (fun _ => ?_) fun h => by cases h
          exact ev_op (ev_var rfl) ev_c (rv_ixL (sq_of lk7) (atI_nat (j := 0) rfl))
      refine q_app mi7 (ev_ixr mis7 hm (ev_own (j := 5) so7 (ev_var rfl) rfl) (ev_var rfl)) (hmiss _ rfl) (by rw [List.length_map]; have : (S.miss me).length = S.done me := rfl; omega) fun H8 e8 => ?_
      generalize hH9 : upd H8 (c.mi me) (.lst ((S.miss me).map oV ++ [oV (lacksS S ins.length me).head?])) = H9
      have no9 : H9 (c.no me) = some (.lst (vs ++ [mv])) := by
        rw [← hH9, upd_ne (ne_ro (R.no me hm) (R.mi me hm) (by omega))]
        exact e8 _ _ (by rw [← hH7, upd_same])
      have f9 : Fr (fun a => a = c.no me ∨ a = c.mi me) H5 H9 := fun a o h z => by
        rw [← hH9, upd_ne fun w => z (.inr w)]
        exact e8 _ _ (k7 a o h fun w => z (.inl w))
      have fr9 : FrT H5 H9 := f9.frT fun a xs ha z => OW5.net.noT a xs ha (.inr (.inr (.inr (.inr (.inr ⟨me, hm, z.elim .inl fun q => .inr (.inl q)⟩)))))
      have pmv9 : IsD H9 mv (stepD s ins.length me (S.done me) (S.note me (S.done me)) (heardS S me)) := (show IsD H5 mv _ from pmv).up fr9
      have N9 : NetAt H9 ins.length c (goneS s S ins.length me) := OW5.net.noted hm f9 v1' no9 pmv9 (by rw [← hH9, upd_same, List.map_append]; rfl) (fun i r j h => (I.k i r j h).2.2) fun l hl => (I.bag l hl).2.2.2.1
      have f09 : Fr (c.Fp ins.length) H H9 := (Fr.ex ((e1.trans e4).trans e5)).trans (f9.mono fun a z => .inr (.inr (.inr (.inr (.inr ⟨me, hm, z.elim .inl fun q => .inr (.inl q)⟩)))))
      have OW9 : OwnW Hs H9 nt c ia sh s ins (goneS s S ins.length me) := ⟨OW.exf f09 fun _ z => z, OW.st, OW.free, N9⟩
      have dn : (goneS s S ins.length me).done me = S.done me + 1 := gone_done_me
      refine s_when (b := decide (S.done me + 1 < s.rounds)) (et_test (ev_is (ev_op (ev_is (v := .int ((S.done me : Int) + 1)) (ev_op (ev_var rfl) ev_c rv_I0) (show V.int ((S.done me : Int) + 1) = V.int ((S.done me + 1 : Nat) : Int) from rfl)) (ev_rounds OW9.so (ev_var rfl)) rv_I0) (congrArg V.bl nat_lt_dec))) (fun h H13 e13 => ?_) fun h H13 e13 => ?_
      · have hlt := of_decide_eq_true h
        refine s_mut (vs := [.ref nt, .int me, .int ((S.done me + 1 : Nat) : Int)]) (ea_cons (ev_var rfl) (ea_cons (ev_var rfl) (ea_cons (ev_is (ev_op (ev_var rfl) ev_c rv_I0) rfl) ea_nil))) fun H14 e14 => ?_
        have OW14 := OW9.exx (e13.trans e14)
        refine ⟨Hs, nt, _, ia, sh, s, ins, _, me, S.done me + 1, rfl, OW14, hm, ?_, by show S.bag.length ≤ 90000; omega, fun H15 f15 N15 => ?_⟩
        · rw [dn]
          exact Nat.le_refl _
        · have ge : goS s S ins.length me = wroteS (goneS s S ins.length me) ins.length me (S.done me + 1) := by unfold goS; rw [if_pos hlt]
          rw [ge] at q
          exact q H15 ((f09.trans (Fr.ex (e13.trans e14))).trans (f15.mono fun a z => .inl z)) N15
      · have hge := of_decide_eq_false h
        have ge : goS s S ins.length me = goneS s S ins.length me := by unfold goS; rw [if_neg hge]
        rw [ge] at q
        exact q H13 (f09.trans (Fr.ex e13)) (N9.exx e13)
end Kn

set_option Elab.async false
set_option linter.all false
set_option maxRecDepth 100000
set_option maxHeartbeats 4000000
/-! the law's own nets: events -/
namespace Kn
open PySem PySem.Spec PyProof.Rows L2 Evl
local macro_rules | `(tactic| walk_at "ev") => `(tactic| first
  | ((with_reducible apply ev_var); exact rfl)
  | with_reducible exact ev_c
  | with_reducible exact ea_nil
  | ((with_reducible apply ea_cons) <;> walk_at "ev")
  | ((with_reducible apply ev_int); walk_at "ev")
  | ((with_reducible apply ev_op) <;> walk_at "ev")
  | ((with_reducible apply ev_un) <;> walk_at "ev")
  | with_reducible exact rv_I0
  | with_reducible exact rv_isN
  | ((with_reducible apply rv_eq); exact rfl)
  | ((with_reducible apply rv_ne); exact rfl)
  | with_reducible exact ru_neg
  | ((with_reducible apply rv_I); first | exact Or.inl (by decide) | decide | assumption | skip)
  | ((with_reducible apply rv_ixL) <;> first | assumption | exact rfl | skip)
  | ((with_reducible apply rv_ixT) <;> first | assumption | exact rfl | skip)
  | ((with_reducible apply ev_fld) <;> first | walk_at "ev" | assumption | exact rfl | skip)
  | ((with_reducible apply ev_len) <;> first | walk_at "ev" | assumption | skip)
  | ((with_reducible apply ev_lenT) <;> first | walk_at "ev" | assumption | skip)
  | exact rv_eq rfl
  | exact rv_ne rfl
  | assumption
  | skip)
def sp__law_do (W : Wd) : GS := fun vs H Q => ∃ (Hs : Hp) (nt : Addr) (c : Re) (ia sh : Addr) (s : Sh) (ins : List Int) (S : NS) (w : Wo) (k : Nat), vs = [.ref nt, .str w.str, .int k] ∧ OwnW Hs H nt c ia sh s ins S ∧ InvS s ins.length ins S ∧ canS s S ins.length w (k : Int) = true ∧ S.t < 70000 ∧ S.bag.length ≤ 70000 ∧
  ∀ H' c', Go ins.length c H c' H' (doS s S ins.length w k) → Q .non H'
abbrev N__law_do : List Str := ["_law_net_here", "_law_word", "_law_number", "_law_to", "_law_by", "_law_at", "_law_memory", "_law_kept"]
theorem sc__law_do : FnScope N__law_do ["_law_net_here", "_law_word", "_law_number"] (defScope s_law_do) := ⟨rfl, rfl, rfl, by decide +kernel, rfl, by decide +kernel, by decide +kernel⟩
theorem C__law_do {W : Wd} (T : TopW W) : Cal W "_law_do" 3 (sp__law_do W) := by
  have C__law_go := C__law_go T
  have C__law_write := C__law_write T
  refine cal_mk T (d := d_law_do) (ps := ["_law_net_here", "_law_word", "_law_number"]) 57 49 rfl rfl rfl rfl rfl fun f fd F => ⟨fng_of F sc__law_do (fun vs H Q h => ?_) (fun cdv A outer s H vs Q hr hg h => ?_), F.bindsN fun _ _ _ _ _ _ us hl => match us, hl with | [_, _, _], _ => rfl⟩
  · obtain ⟨Hs, nt, c, ia, sh, s, ins, S, w, k, h0, OW, I, hcan, htz, hbz, q⟩ := h
    first | rfl | (subst h0; rfl)
  · have hu := hu_of hr
    have nd := sc__law_do.nd
    obtain ⟨Hs, nt, c, ia, sh, s, ins, S, w, k, h0, OW, I, hcan, htz, hbz, q⟩ := h
    try subst h0
    refine ⟨_, (pss_one (ps_if (pt_cmpR op_eq (pv 1) pe_str (nomark _)) (pss_cons (ps_asg (pe_bm PySem.F.plainAttrs_list PySem.F.slot_list_pop PySem.F.type_list_pop mt_popAt (pe_ixlk (K := W.K) rfl (pv 0) pe_int (fun _ _ => rfl)) (pa_cons (pv 2) pa_nil)) (pg_tupk (K := W.K) (n := 4) rfl rfl (pgs_cons (pg_name (i := 3) nd rfl (Or.inl rfl)) (pgs_cons (pg_name (i := 4) nd rfl (Or.inl rfl)) (pgs_cons (pg_name (i := 5) nd rfl (Or.inl rfl)) (pgs_cons (pg_name (i := 6) nd rfl (Or.inl rfl)) pgs_nil)))) rfl)) (pss_cons (ps_set (i := 7) nd rfl (Or.inl rfl) (pe_ixlk (K := W.K) rfl (pe_ixlk (K := W.K) rfl (pv 0) pe_int (fun _ _ => rfl)) (pv 3) (fun _ _ => rfl))) (pss_one (ps_if (PW.pt (pw_and (pt_cmpR op_ge (pv 5) (pe_callB (cr_lenk (K := W.K) rfl) rfl T.free_len boot_len (pa_cons (pe_ixlk (K := W.K) rfl (pe_ixlk (K := W.K) rfl (pv 0) pe_int (fun _ _ => rfl)) (pv 3) (fun _ _ => rfl)) pa_nil)) (nomark _)) (pw_and1 (pt_cmp (pc_dnotin hu (pe_tup (pa_cons (pv 5) (pa_cons (pv 4) pa_nil))) (pv 7)) rfl)))) (pss_one (ps_dput hu (pv 7) (pe_tup (pa_cons (pv 5) (pa_cons (pv 4) pa_nil))) (pv 6) rfl)) pss_nil)))) (pss_one (ps_if (pt_cmpR op_eq (pv 1) pe_str (nomark _)) (pss_one (ps_expr (pe_bm PySem.F.plainAttrs_list PySem.F.slot_list_append PySem.F.type_list_append mt_append (pe_ixlk (K := W.K) rfl (pv 0) pe_int (fun _ _ => rfl)) (pa_cons (pe_ixlk (K := W.K) rfl (pe_ixlk (K := W.K) rfl (pv 0) pe_int (fun _ _ => rfl)) (pv 2) (fun _ _ => rfl)) pa_nil)))) (pss_one (ps_if (pt_cmpR op_eq (pv 1) pe_str (nomark _)) (pss_one (ps_expr (pe_cal C__law_go rfl hr (by decide) hg rfl (pa_cons (pv 0) (pa_cons (pv 2) pa_nil))))) (pss_one (ps_if (pt_cmpR op_eq (pv 1) pe_str (nomark _)) (pss_one (ps_for PassesOwn.never rfl (pi_range1 rfl T.free_range (pa_cons (pe_callB (cr_min2 rfl) rfl T.free_min boot_min (pa_cons (pe_callB (cr_lenk (K := W.K) rfl) rfl T.free_len boot_len (pa_cons (pe_ixlk (K := W.K) rfl (pe_ixlk (K := W.K) rfl (pv 0) pe_int (fun _ _ => rfl)) (pv 2) (fun _ _ => rfl)) pa_nil)) (pa_cons (pe_ixlk (K := W.K) rfl (pe_ixlk (K := W.K) rfl (pv 0) pe_int (fun _ _ => rfl)) pe_int (fun _ _ => rfl)) pa_nil))) pa_nil)) (pg_name (i := 5) nd rfl (Or.inl rfl)) (pss_one (ps_expr (pe_cal C__law_write rfl hr (by decide) hg rfl (pa_cons (pv 0) (pa_cons (pv 2) (pa_cons (pv 5) pa_nil)))))))) (pss_cons (ps_asg (pe_cmpR op_eq (pv 1) pe_str (nomark _)) (pg_sub (pe_ixlk (K := W.K) rfl (pv 0) pe_int (fun _ _ => rfl)) (pv 2) set_list)) (pss_one (ps_asg pe_dnewT (pg_sub (pe_ixlk (K := W.K) rfl (pv 0) pe_int (fun _ _ => rfl)) (pv 2) set_list)))))))))))), ?_⟩
    have wd : ∀ (v : Wo) {H' : Hp} {σ : L2.St}, σ[1]? = some (some (.str w.str)) → EvT (tTest (tOp rEq (tVar 1) (tC (.str v.str)))) σ H' (decide (w = v)) := fun v H' σ h => et_is (et_test (ev_op (ev_var h) ev_c (rv_eq rfl))) (wo_dec w v)
    have qq : ∀ {H2 H3 : Hp} {c' : Re}, Ex H H2 → Go ins.length c H2 c' H3 (doS s S ins.length w k) → Q .non H3 := fun e g => q _ _ (Go.ahead e g)
    have N := OW.net
    have n5 := OW.st.n5
    have dle : S.done k ≤ 12 ∨ ¬ k < ins.length := by
      by_cases z : k < ins.length
      · have := I.done k z; have := OW.st.ok.r; exact .inl (by omega)
      · exact .inr z
    cases w with
    | come =>
      refine s_if (b := true) (wd .come rfl) (fun _ H1 e1 => ?_) fun h => by cases h
      obtain ⟨hk, _⟩ := can_letter hcan (.inl rfl)
      have OW1 := OW.exx e1
      obtain ⟨ls, b1, b2, b3⟩ := OW1.net.bag
      have hS : S.bag[k]? = some S.bag[k] := by simp [hk]
      have kl : k < ls.length := by omega
      have hL : ls[k]? = some ls[k] := by simp [kl]
      obtain ⟨p, m, hp1, hp2, hp3⟩ := b3 k _ _ hL hS
      have hL := hL.trans (congrArg some hp1)
      obtain ⟨i1, i2, i3, i4, i5⟩ := I.bag S.bag[k] (List.getElem_mem hk)
      have ds : doS s S ins.length .come k = { comeS S k with t := S.t + 1 } := rfl
      rw [ds, come_eq hS] at qq
      generalize S.bag[k] = l at hS hp1 hp2 hp3 i1 i2 i3 i4 i5 qq
      refine q_pop b1 (ev_own (j := 2) OW1.so (ev_var rfl) rfl) (ev_var rfl) hL hp2 rfl (by omega) fun H2 e2 => ?_
      refine ⟨_, _, rfl, _, _, rfl, _, _, rfl, _, _, rfl, rfl, ?_⟩
      have N2 := OW1.net.popped (k := k) b1 e2
      have h2b := e2 _ _ b1
      have f2 : Fr (fun a => a = c.bag) H1 (upd H2 c.bag (.lst (ls.eraseIdx k))) := fun a o h z => (upd_ne z).trans (e2 _ _ h)
      have fr2 : FrT H1 (upd H2 c.bag (.lst (ls.eraseIdx k))) := (Ex.frT e2).trans (FrT.new fun xs q => by rw [h2b] at q; cases q)
      generalize upd H2 c.bag (.lst (ls.eraseIdx k)) = H3 at N2 f2 fr2
      have so3 := OW.st.ex (OW1.exf f2 fun a z => .inl z)
      have fp : Fr (c.Fp ins.length) H1 H3 := f2.mono fun a z => .inl z
      refine q_asg (v := .ref (c.ke l.1)) (ev_ixr N2.kept i1 (ev_own (j := 6) so3 (ev_var rfl) rfl) (ev_var rfl)) fun H4 e4 => ?_
      have so4 := so3.ex e4
      have N4 := N2.exx e4
      obtain ⟨kvs, k1, k2', k3⟩ := N4.ke l.1 i1
      have k2' : kvs.length ≤ S.t := k2'
      refine s_when (b := decide (S.done l.1 ≤ l.2.2) && !(valV kvs (k2 l.2.2 l.2.1)).isSome) (et_and (et_test (ev_is (ev_op (ev_var rfl) (ev_done (S := { S with bag := S.bag.eraseIdx k }) so4 N4 i1 (ev_var rfl) (ev_var rfl)) rv_I0) (congrArg V.bl nat_le_dec))) fun _ => et_B (ev_dni (ev_var rfl) k1 (eu_tup (by walk_at "ev") (by simp)))) (fun h H5 e5 => ?_) fun h H5 e5 => ?_
      · rw [Bool.and_eq_true] at h
        have hd := of_decide_eq_true h.1
        have hn : valV kvs (k2 l.2.2 l.2.1) = none := by
          have := h.2
          cases z : valV kvs (k2 l.2.2 l.2.1) with
          | none => rfl
          | some v => rw [z] at this; cases this
        have hm5 : IsD H5 m (S.note l.2.1 l.2.2) := (hp3.up fr2).ex (e4.trans e5)
        refine s_dput (ev_var rfl) (e5 _ _ k1) (eu_tup (by walk_at "ev") (by simp)) (ev_var rfl) (by omega) fun H6 e6 => ?_
        have k1' := (e5.trans e6) _ _ k1
        have frk : FrT H6 (upd H6 (c.ke l.1) (.dT (putK kvs (k2 l.2.2 l.2.1) m))) := FrT.new fun xs q => by rw [k1'] at q; cases q
        have fk : Fr (fun a => a = c.ke l.1) H6 (upd H6 (c.ke l.1) (.dT (putK kvs (k2 l.2.2 l.2.1) m))) := fun a o h z => (upd_ne z).trans h
        refine qq e1 (Go.same ((fp.trans (Fr.ex ((e4.trans e5).trans e6))).trans (fk.mono fun a z => .inr (.inr (.inr (.inr (.inr ⟨l.1, i1, .inr (.inr z)⟩)))))) ?_)
        rw [if_pos hd]
        exact ((N4.exx e5).exx e6).keptIn (me := l.1) i1 fk upd_same (Nat.le_trans (length_putK _ _ _) (Nat.succ_le_succ k2')) (Nat.le_succ _) ((k3.put ((hp3.up fr2).ex e4) hn).up ((Ex.frT (e5.trans e6)).trans frk)) fun i hi => setN_ne hi
      · refine qq e1 (Go.same (fp.trans (Fr.ex (e4.trans e5))) ?_)
        by_cases hd : S.done l.1 ≤ l.2.2
        · rw [if_pos hd]
          rw [decide_eq_true hd, Bool.true_and] at h
          obtain ⟨v, hv⟩ : ∃ v, valV kvs (k2 l.2.2 l.2.1) = some v := by
            cases z : valV kvs (k2 l.2.2 l.2.1) with
            | none => rw [z] at h; cases h
            | some v => exact ⟨v, rfl⟩
          exact (N4.exx e5).keptIn (me := l.1) i1 (Fr.ex (Ex.refl _)) (e5 _ _ k1) (Nat.le_succ_of_le k2') (Nat.le_succ _) ((k3.had hv).up (Ex.frT e5)) fun i hi => setN_ne hi
        · rw [if_neg hd]
          exact (N4.exx e5).later (Nat.le_succ _)
    | double =>
      refine s_if (b := false) (wd .come rfl) (fun h => by cases h) fun _ H2 e2 => ?_
      refine s_if (b := true) (wd .double rfl) (fun _ H3 e3 => ?_) fun h => by cases h
      obtain ⟨hk, _⟩ := can_letter hcan (.inr rfl)
      have OW3 := (OW.exx e2).exx e3
      obtain ⟨ls, b1, b2, b3⟩ := OW3.net.bag
      have hS : S.bag[k]? = some S.bag[k] := by simp [hk]
      have kl : k < ls.length := by omega
      have hL : ls[k]? = some ls[k] := by simp [kl]
      obtain ⟨p, m, hp1, hp2, hp3⟩ := b3 k _ _ hL hS
      have hL := hL.trans (congrArg some hp1)
      refine s_app b1 (ev_own (j := 2) OW3.so (ev_var rfl) rfl) (ev_op (ev_own (j := 2) OW3.so (ev_var rfl) rfl) (ev_var rfl) (rv_ixL (sq_of b1) (atI_nat hL))) (by omega) fun H4 e4 => ?_
      have N4 := OW3.net.letter (to := S.bag[k].1) (me := S.bag[k].2.1) (r := S.bag[k].2.2) b1 e4 (e4 _ _ hp2) hp3
      have ds : doS s S ins.length .double k = { S with bag := S.bag ++ [S.bag[k]], t := S.t + 1 } := by
        show { doubleS S k with t := S.t + 1 } = _
        unfold doubleS
        rw [hS]
      rw [ds] at q qq
      exact qq (e2.trans e3) (Go.same (fun a o h z => (upd_ne fun w => z (.inl w)).trans (e4 _ _ h)) (N4.later (T := S.t + 1) (Nat.le_succ _)))
    | go =>
      refine s_if (b := false) (wd .come rfl) (fun h => by cases h) fun _ H2 e2 => ?_
      refine s_if (b := false) (wd .double rfl) (fun h => by cases h) fun _ H3 e3 => ?_
      refine s_if (b := true) (wd .go rfl) (fun _ H4 e4 => ?_) fun h => by cases h
      obtain ⟨hk, _, hgo⟩ := can_mach hcan (by decide)
      obtain ⟨g1, g2⟩ := hgo rfl
      exact s_mut (vs := [.ref nt, .int k]) (by walk_at "ev") fun H5 e5 => ⟨Hs, nt, c, ia, sh, s, ins, S, k, rfl, (((OW.exx e2).exx e3).exx e4).exx e5, I, hk, g1, g2, by omega, by omega, fun H6 f6 N6 => qq (((e2.trans e3).trans e4).trans e5) (Go.same f6 (N6.later (T := S.t + 1) (by
        show (goS s S ins.length k).t ≤ S.t + 1
        have : (goS s S ins.length k).t = S.t := by unfold goS; split <;> rfl
        rw [this]
        exact Nat.le_succ _)))⟩
    | again =>
      refine s_if (b := false) (wd .come rfl) (fun h => by cases h) fun _ H2 e2 => ?_
      refine s_if (b := false) (wd .double rfl) (fun h => by cases h) fun _ H3 e3 => ?_
      refine s_if (b := false) (wd .go rfl) (fun h => by cases h) fun _ H4 e4 => ?_
      refine s_if (b := true) (wd .again rfl) (fun _ H5 e5 => ?_) fun h => by cases h
      obtain ⟨hk, _⟩ := can_mach hcan (by decide)
      have OW5 := (((OW.exx e2).exx e3).exx e4).exx e5
      obtain ⟨vs, v1, v2, v3⟩ := OW5.net.no k hk
      have hr12 := OW.st.ok.r
      have hdn := dle.resolve_right (fun z => z hk)
      refine s_forR1 (n := ((min (S.done k + 1) s.rounds : Nat) : Int)) (ea_cons (ev_is (ev_min2 (i := (vs.length : Nat)) (j := (s.rounds : Nat)) (ea_cons (ev_len (ev_ixr OW5.net.notes hk (ev_own (j := 4) OW5.so (ev_var rfl) rfl) (ev_var rfl)) (sq_of v1)) (ea_cons (ev_rounds OW5.so (ev_var rfl)) ea_nil))) ?_) ea_nil) ⟨by omega, by omega⟩
        (fun i σ' H' => Fr (c.Fp ins.length) H H' ∧ NetAt H' ins.length c (againUp S ins.length k i) ∧ ∃ y : Option V, σ' = [some (.ref nt), some (.str Wo.again.str), some (.int k), none, none, y, none, none]) (fun H6 e6 => ⟨Fr.ex ((((e2.trans e3).trans e4).trans e5).trans e6), (OW5.exx e6).net, none, rfl⟩) ?_ ?_
      · refine congrArg V.int ?_
        rw [v2]
        split <;> omega
      · rintro i σ' H6 hi ⟨f6, N6, _, rfl⟩
        have OW6 : OwnW Hs H6 nt c ia sh s ins (againUp S ins.length k i) := ⟨OW.exf f6 fun _ z => z, OW.st, OW.free, N6⟩
        refine s_mut (vs := [.ref nt, .int k, .int (i : Nat)]) (by walk_at "ev") fun H7 e7 => ⟨Hs, nt, c, ia, sh, s, ins, _, k, i, rfl, OW6.exx e7, hk, ?_, ?_, fun H8 f8 N8 => ⟨(f6.trans (Fr.ex e7)).trans (f8.mono fun a z => .inl z), N8, _, rfl⟩⟩
        · rw [againUp_done]
          omega
        · have := againUp_len (S := S) n5 k i
          omega
      · rintro σ' H6 ⟨f6, N6, _⟩
        have e : (((min (S.done k + 1) s.rounds : Nat) : Int)).toNat = min (S.done k + 1) s.rounds := by omega
        rw [e] at N6
        exact q H6 c (Go.same f6 (N6.later (T := S.t + 1) (by rw [(againUp_same S _ _ _).2.2.2.2]; exact Nat.le_succ _)))
    | fall =>
      refine s_if (b := false) (wd .come rfl) (fun h => by cases h) fun _ H2 e2 => ?_
      refine s_if (b := false) (wd .double rfl) (fun h => by cases h) fun _ H3 e3 => ?_
      refine s_if (b := false) (wd .go rfl) (fun h => by cases h) fun _ H4 e4 => ?_
      refine s_if (b := false) (wd .again rfl) (fun h => by cases h) fun _ H5 e5 => ?_
      obtain ⟨hk, _⟩ := can_mach hcan (by decide)
      have OW5 := (((OW.exx e2).exx e3).exx e4).exx e5
      refine q_setP (P := (MP.eq (.bl false)).p) OW5.net.up (ep_ev (ev_is (ev_op (ev_var rfl) ev_c (rv_eq rfl)) (congrArg V.bl (wo_dec .fall .rise)))) (ev_own (j := 3) OW5.so (ev_var rfl) rfl) (ev_var rfl) (by simpa using hk) (fun _ _ _ _ p => p) fun v H6 e6 pv => ?_
      have pv : v = .bl false := pv
      subst pv
      have f6 : Fr (fun a => a = c.up) H5 (upd H6 c.up (.lst (((List.range ins.length).map fun i => V.bl (S.up i)).set k (.bl false)))) := fun a o h z => (upd_ne z).trans (e6 _ _ h)
      have so6 := OW.st.ex (OW5.exf f6 fun a z => .inr (.inl z))
      have k6 := f6 _ _ OW5.net.kept (by obtain ⟨ρ, R⟩ := OW5.net.ro; exact ne_ro R.kept R.up (by decide))
      exact fun d hd => by
        have e7 := Ex.new (o := .dT []) hd
        refine g_set (e7 _ _ k6) (ev_own (j := 6) (so6.ex e7) (ev_var rfl) rfl) (ev_var rfl) (by simpa using hk) fun H8 e8 => ?_
        exact qq (((e2.trans e3).trans e4).trans e5) (OW5.net.fallen hk e6 hd (e7.trans e8) (e8 _ _ upd_same))
    | rise =>
      refine s_if (b := false) (wd .come rfl) (fun h => by cases h) fun _ H2 e2 => ?_
      refine s_if (b := false) (wd .double rfl) (fun h => by cases h) fun _ H3 e3 => ?_
      refine s_if (b := false) (wd .go rfl) (fun h => by cases h) fun _ H4 e4 => ?_
      refine s_if (b := false) (wd .again rfl) (fun h => by cases h) fun _ H5 e5 => ?_
      obtain ⟨hk, _⟩ := can_mach hcan (by decide)
      have OW5 := (((OW.exx e2).exx e3).exx e4).exx e5
      refine q_setP (P := (MP.eq (.bl true)).p) OW5.net.up (ep_ev (ev_is (ev_op (ev_var rfl) ev_c (rv_eq rfl)) (congrArg V.bl (wo_dec .rise .rise)))) (ev_own (j := 3) OW5.so (ev_var rfl) rfl) (ev_var rfl) (by simpa using hk) (fun _ _ _ _ p => p) fun v H6 e6 pv => ?_
      have pv : v = .bl true := pv
      subst pv
      have f6 : Fr (fun a => a = c.up) H5 (upd H6 c.up (.lst (((List.range ins.length).map fun i => V.bl (S.up i)).set k (.bl true)))) := fun a o h z => (upd_ne z).trans (e6 _ _ h)
      have so6 := OW.st.ex (OW5.exf f6 fun a z => .inr (.inl z))
      have k6 := f6 _ _ OW5.net.kept (by obtain ⟨ρ, R⟩ := OW5.net.ro; exact ne_ro R.kept R.up (by decide))
      exact fun d hd => by
        have e7 := Ex.new (o := .dT []) hd
        refine g_set (e7 _ _ k6) (ev_own (j := 6) (so6.ex e7) (ev_var rfl) rfl) (ev_var rfl) (by simpa using hk) fun H8 e8 => ?_
        exact qq (((e2.trans e3).trans e4).trans e5) (OW5.net.fallen hk e6 hd (e7.trans e8) (e8 _ _ upd_same))
end Kn

set_option Elab.async false
set_option linter.all false
set_option maxRecDepth 100000
set_option maxHeartbeats 4000000
/-! the law's own nets: a drawn event; begun -/
namespace Kn
open PySem PySem.Spec PyProof.Rows L2 Evl
local macro_rules | `(tactic| walk_at "ev") => `(tactic| first
  | ((with_reducible apply ev_var); exact rfl)
  | with_reducible exact ev_c
  | with_reducible exact ea_nil
  | ((with_reducible apply ea_cons) <;> walk_at "ev")
  | ((with_reducible apply ev_int); walk_at "ev")
  | ((with_reducible apply ev_op) <;> walk_at "ev")
  | ((with_reducible apply ev_un) <;> walk_at "ev")
  | with_reducible exact rv_I0
  | with_reducible exact rv_isN
  | ((with_reducible apply rv_eq); exact rfl)
  | ((with_reducible apply rv_ne); exact rfl)
  | with_reducible exact ru_neg
  | ((with_reducible apply rv_I); first | exact Or.inl (by decide) | decide | assumption | skip)
  | ((with_reducible apply rv_ixL) <;> first | assumption | exact rfl | skip)
  | ((with_reducible apply rv_ixT) <;> first | assumption | exact rfl | skip)
  | ((with_reducible apply ev_fld) <;> first | walk_at "ev" | assumption | exact rfl | skip)
  | ((with_reducible apply ev_len) <;> first | walk_at "ev" | assumption | skip)
  | ((with_reducible apply ev_lenT) <;> first | walk_at "ev" | assumption | skip)
  | exact rv_eq rfl
  | exact rv_ne rfl
  | assumption
  | skip)
def sp__law_event (W : Wd) : GS := fun vs H Q => ∃ (Hs : Hp) (p nt wl : Addr) (c : Re) (ia sh : Addr) (s : Sh) (ins : List Int) (S : NS) (ws : List V), vs = [.ref p, .ref nt, .ref wl] ∧ PotAt Hs H p ∧ OwnW Hs H nt c ia sh s ins S ∧ (∀ l ∈ S.bag, l.1 < ins.length) ∧ ¬ c.Fp ins.length p ∧ Hs wl = some (.lst ws) ∧ 0 < ws.length ∧ ws.length ≤ 1000 ∧ (∀ v ∈ ws, ∃ w : Wo, v = .str w.str) ∧ S.bag.length ≤ 30000 ∧
  ∀ ev w (k : Nat) H', Fr (IsA p) H H' → PotAt Hs H' p → EvtAt H' ev w k → canS s S ins.length w (k : Int) = true → Q (.ref ev) H'
theorem OwnW.pot {Hs H H' : Hp} {nt p : Addr} {c : Re} {ia sh : Addr} {s : Sh} {ins : List Int} {S : NS} (h : OwnW Hs H nt c ia sh s ins S) (P : PotAt Hs H p) (f : Fr (IsA p) H H') (P' : PotAt Hs H' p) (n : ¬ c.Fp ins.length p) : OwnW Hs H' nt c ia sh s ins S :=
  ⟨P'.ex, h.st, h.free, h.net.fr f (fun a ha e => n (by have e : a = p := e; rw [← e]; exact ha)) P.noT⟩
abbrev N__law_event : List Str := ["_law_pot_here", "_law_net_here", "_law_words", "_law_word", "_law_top", "_law_some", "_law_number"]
theorem sc__law_event : FnScope N__law_event ["_law_pot_here", "_law_net_here", "_law_words"] (defScope s_law_event) := ⟨rfl, rfl, rfl, by decide +kernel, rfl, by decide +kernel, by decide +kernel⟩
theorem C__law_event {W : Wd} (T : TopW W) : Cal W "_law_event" 3 (sp__law_event W) := by
  have C__law_any := C__law_any T
  have C__law_can := C__law_can T
  refine cal_mk T (d := d_law_event) (ps := ["_law_pot_here", "_law_net_here", "_law_words"]) 58 50 rfl rfl rfl rfl rfl fun f fd F => ⟨fng_of F sc__law_event (fun vs H Q h => ?_) (fun cdv A outer s H vs Q hr hg h => ?_), F.bindsN fun _ _ _ _ _ _ us hl => match us, hl with | [_, _, _], _ => rfl⟩
  · obtain ⟨Hs, p, nt, wl, c, ia, sh, s, ins, S, ws, h0, P, OW, hbl, hfp, hwl, hw0, hw1, hws, hbz, q⟩ := h
    first | rfl | (subst h0; rfl)
  · have hu := hu_of hr
    have nd := sc__law_event.nd
    obtain ⟨Hs, p, nt, wl, c, ia, sh, s, ins, S, ws, h0, P, OW, hbl, hfp, hwl, hw0, hw1, hws, hbz, q⟩ := h
    try subst h0
    refine ⟨_, (pss_cons (ps_set (i := 3) nd rfl (Or.inr rfl) (pe_cal C__law_any rfl hr (by decide) hg rfl (pa_cons (pv 0) (pa_cons (pv 2) pa_nil)))) (pss_cons (ps_set (i := 4) nd rfl (Or.inl rfl) (pe_ifExp (pt_cmpR (op_inSk (K := W.K) rfl) (pv 3) (pe_tup (pa_cons pe_str (pa_cons pe_str pa_nil))) rfl) (pe_callB (cr_lenk (K := W.K) rfl) rfl T.free_len boot_len (pa_cons (pe_ixlk (K := W.K) rfl (pv 1) pe_int (fun _ _ => rfl)) pa_nil)) (pe_callB (cr_lenk (K := W.K) rfl) rfl T.free_len boot_len (pa_cons (pe_ixlk (K := W.K) rfl (pv 1) pe_int (fun _ _ => rfl)) pa_nil)))) (pss_cons (ps_setLc (i := 5) (own := [("_law_number", 6)]) rfl nd rfl rfl (sw_true rfl rfl rfl (by decide +kernel)) (pi_range1 rfl T.free_range (pa_cons (pv 4) pa_nil)) (blkOk_by (own := [("_law_number", 6)]) (N := N__law_event) (sc := defScope s_law_event) (by decide +kernel)) (fun _ _ _ _ _ => (pg_name (i := 6) nd rfl (Or.inl rfl))) (fun _ _ _ _ _ => (pts_one (pt_val (pe_cal C__law_can rfl hr (by decide) hg rfl (pa_cons (pv 1) (pa_cons (pv 3) (pa_cons (pv 6) pa_nil))))))) (fun _ _ _ _ _ => (pv 6))) (pss_cons (ps_if (pt_cmpR op_eq (pe_callB (cr_lenk (K := W.K) rfl) rfl T.free_len boot_len (pa_cons (pv 5) pa_nil)) pe_int (nomark _)) (pss_one (ps_ret (pe_tup (pa_cons (pe_ifExp (pt_val (pe_ixlk (K := W.K) rfl (pe_ixlk (K := W.K) rfl (pv 1) pe_int (fun _ _ => rfl)) pe_int (fun _ _ => rfl))) pe_str pe_str) (pa_cons pe_int pa_nil))))) pss_nil) (pss_one (ps_ret (pe_tup (pa_cons (pv 3) (pa_cons (pe_cal C__law_any rfl hr (by decide) hg rfl (pa_cons (pv 0) (pa_cons (pv 5) pa_nil))) pa_nil))))))))), ?_⟩
    have nwp : wl ≠ p := fun z => by rw [z, P.fr] at hwl; cases hwl
    have n5 := OW.st.n5
    have n3 := OW.st.n3
    refine q_of (t_anyL rfl rfl P (P.ex _ _ hwl) nwp hw0 (by omega) fun v H1 f1 P1 hv => ?_)
    obtain ⟨w, rfl⟩ := hws v hv
    have OW1 := OW.pot P f1 P1 hfp
    obtain ⟨ls, b1, b2, b3⟩ := OW1.net.bag
    refine q_asg (v := .int ((if w = .come ∨ w = .double then S.bag.length else ins.length : Nat) : Int)) (ev_if (b := decide (w = .come ∨ w = .double)) (et_is (et_test (ev_inU (ev_var rfl) (eu_tup (vs := [.str "come", .str "double"]) (by walk_at "ev") (by simp)) rfl rfl)) (wo_l w)) (fun h => ?_) fun h => ?_) fun H2 e2 => ?_
    · rw [if_pos (of_decide_eq_true h), ← b2]
      exact ev_len (ev_own (j := 2) OW1.so (ev_var rfl) rfl) (sq_of b1)
    · rw [if_neg (of_decide_eq_false h)]
      exact ev_many OW1.so (ev_var rfl)
    have tz : (if w = .come ∨ w = .double then S.bag.length else ins.length) ≤ 30000 := by split <;> omega
    generalize (if w = .come ∨ w = .double then S.bag.length else ins.length) = top at tz
    have OW2 := OW1.exx e2
    refine q_asgL (el_lcR1 (n := (top : Nat)) (fun i => canS s S ins.length w (i : Int)) (fun i => V.int (i : Nat)) (ea_cons (ev_var rfl) ea_nil) ⟨by omega, by omega⟩ (fun _ => rfl) (fun i H3 e3 _ => et_B (ev_calR (by walk_at "ev") fun H4 e Q kq => ⟨nt, c, ia, sh, s, ins, S, w, i, rfl, (OW2.exx e3).so.ex e, (OW2.exx e3).net.exx e, hbl, kq⟩)) fun i H3 e3 _ _ => ev_var rfl) fun sl H3 hsl0 e3 hsl => ?_
    have P3 := (P1.exx e2).exx e3
    have OW3 := OW2.exx e3
    have f3 : Fr (IsA p) H H3 := f1.trans (Fr.ex (e2.trans e3))
    have nsp : sl ≠ p := (P1.exx e2).ne hsl0
    have hgl : ∀ v ∈ given (((top : Nat) : Int).toNat) (fun i => canS s S ins.length w (i : Int)) (fun i => V.int (i : Nat)), ∃ i : Nat, v = .int i ∧ canS s S ins.length w (i : Int) = true := fun v hv => by
      unfold given at hv
      obtain ⟨i, hi, rfl⟩ := List.mem_map.1 hv
      exact ⟨i, rfl, (List.mem_filter.1 hi).2⟩
    have hgz := given_len (((top : Nat) : Int).toNat) (fun i => canS s S ins.length w (i : Int)) (fun i => V.int (i : Nat))
    generalize given (((top : Nat) : Int).toNat) (fun i => canS s S ins.length w (i : Int)) (fun i => V.int (i : Nat)) = sm at hsl hgl hgz
    refine q_when (b := decide (V.int (sm.length : Nat) = V.int (0 : Nat))) (et_test (ev_op (ev_len (ev_var rfl) (sq_of hsl)) ev_c (rv_eq rfl))) (fun h H4 e4 => ?_) fun h H4 e4 => ?_
    · have OW4 := OW3.exx e4
      have up0 : Ev (tOp (rIxL W.K) (tOp (rIxL W.K) (tVar 1) (tC (.int 3))) (tC (.int 0))) [some (.ref p), some (.ref nt), some (.ref wl), some (.str w.str), some (.int top), some (.ref sl), none] H4 (.bl (S.up 0)) := ev_ixm (i := 0) (f := fun i => .bl (S.up i)) OW4.net.up (by omega) (ev_own (j := 3) OW4.so (ev_var rfl) rfl) ev_c
      refine s_retU (xs := [.str (if S.up 0 = true then Wo.fall else Wo.rise).str, .int (0 : Nat)]) (eu_tup (ea_cons (ev_if (b := S.up 0) (et_B up0) (fun h => ?_) fun h => ?_) (ea_cons ev_c ea_nil)) (by simp)) fun ev H5 hev e5 h5 => ?_
      · rw [if_pos h]
        exact ev_c
      · rw [if_neg (by rw [h]; decide)]
        exact ev_c
      · refine q ev (if S.up 0 = true then Wo.fall else Wo.rise) 0 H5 (f3.trans (Fr.ex (e4.trans e5))) (P3.exx (e4.trans e5)) h5 ?_
        have hn : decide ((0 : Int) < (ins.length : Int)) = true := decide_eq_true (by omega)
        by_cases hu : S.up 0 = true
        · rw [if_pos hu]
          simp [canS, hu]
          omega
        · rw [if_neg hu]
          have hu : S.up 0 = false := by simpa using hu
          simp [canS, hu]
          omega
    · have hlen : 0 < sm.length := by
        rw [nat_eq_dec] at h
        have := of_decide_eq_false h
        omega
      refine ⟨_, rfl, t_anyL rfl rfl (P3.exx e4) (e4 _ _ hsl) nsp hlen (by omega) fun v H5 f5 P5 hv => ⟨by show 2 ≤ sizeLine; decide, fun ev hev => ?_⟩⟩
      obtain ⟨i, rfl, hi⟩ := hgl v hv
      have ex := Ex.new (o := .tup [.str w.str, .int i]) hev
      exact q ev w i _ ((f3.trans (Fr.ex e4)).trans (f5.trans (Fr.ex ex))) (P5.exx ex) upd_same hi
/-- one more machine -/
theorem NetAt.grow {H H' : Hp} {n : Nat} {c : Re} {S : NS} {g m k : Addr} {v : V} (N : NetAt H n c S) (e : Fr (fun a => a = c.up ∨ a = c.notes ∨ a = c.missed ∨ a = c.kept) H H') (hu : H' c.up = some (.lst ((List.range (n + 1)).map fun i => .bl (S.up i))))
    (hno : H' c.notes = some (.lst ((List.range (n + 1)).map fun i => .ref (setN c.no n g i)))) (hmi : H' c.missed = some (.lst ((List.range (n + 1)).map fun i => .ref (setN c.mi n m i)))) (hke : H' c.kept = some (.lst ((List.range (n + 1)).map fun i => .ref (setN c.ke n k i))))
    (g0 : H g = none) (m0 : H m = none) (k0 : H k = none) (gm : g ≠ m) (gk : g ≠ k) (mk : m ≠ k) (hg : H' g = some (.lst [v])) (hv : IsD H' v (S.note n 0)) (hd : S.miss n = []) (hm : H' m = some (.lst [])) (hk : H' k = some (.dT [])) (hK : ∀ r j, S.K n r j = false) :
    NetAt H' (n + 1) { c with no := setN c.no n g, mi := setN c.mi n m, ke := setN c.ke n k } S := by
  obtain ⟨ρ, R⟩ := N.ro
  have nf : ∀ a x, c.Fp n a → H x = none → a ≠ x := fun a x h h2 z => N.full a h (by rw [z]; exact h2)
  have fr : FrT H H' := e.frT fun a xs ha z => N.noT a xs ha (by rcases z with z | z | z | z; exact .inr (.inl z); exact .inr (.inr (.inl z)); exact .inr (.inr (.inr (.inl z))); exact .inr (.inr (.inr (.inr (.inl z)))))
  have kp : ∀ a o i, H a = some o → ρ a = i → i ≠ 1 → i ≠ 2 → i ≠ 3 → i ≠ 4 → H' a = some o := fun a o i h r n1 n2 n3 n4 => e a o h fun z => by
    rcases z with z | z | z | z
    · exact ne_ro r R.up n1 z
    · exact ne_ro r R.notes n2 z
    · exact ne_ro r R.missed n3 z
    · exact ne_ro r R.kept n4 z
  let ρ' : Addr → Nat := fun a => if a = g then 5 + 3 * n else if a = m then 6 + 3 * n else if a = k then 7 + 3 * n else ρ a
  have rn : ∀ a, c.Fp n a → ρ' a = ρ a := fun a h => by
    show (if a = g then _ else _) = _
    rw [if_neg (nf a g h g0), if_neg (nf a m h m0), if_neg (nf a k h k0)]
  obtain ⟨ls, b1, b2, b3⟩ := N.bag
  refine ⟨⟨ρ', (rn _ (.inl rfl)).trans R.bag, (rn _ (.inr (.inl rfl))).trans R.up, (rn _ (.inr (.inr (.inl rfl)))).trans R.notes, (rn _ (.inr (.inr (.inr (.inl rfl))))).trans R.missed, (rn _ (.inr (.inr (.inr (.inr (.inl rfl)))))).trans R.kept, fun i hi => ?_, fun i hi => ?_, fun i hi => ?_⟩,
    ⟨ls, kp _ _ _ b1 R.bag (by omega) (by omega) (by omega) (by omega), b2, fun i w l p q => (b3 i w l p q).up fr⟩, hu, hno, hmi, hke, fun i hi => ?_, fun i hi => ?_, fun i hi => ?_⟩
  · show ρ' (setN c.no n g i) = _
    by_cases z : i = n
    · subst z
      rw [setN_same]
      exact if_pos rfl
    · rw [setN_ne z]
      exact (rn _ (.inr (.inr (.inr (.inr (.inr ⟨i, by omega, .inl rfl⟩)))))).trans (R.no i (by omega))
  · show ρ' (setN c.mi n m i) = _
    by_cases z : i = n
    · subst z
      rw [setN_same]
      show (if m = g then _ else _) = _
      rw [if_neg gm.symm, if_pos rfl]
    · rw [setN_ne z]
      exact (rn _ (.inr (.inr (.inr (.inr (.inr ⟨i, by omega, .inr (.inl rfl)⟩)))))).trans (R.mi i (by omega))
  · show ρ' (setN c.ke n k i) = _
    by_cases z : i = n
    · subst z
      rw [setN_same]
      show (if k = g then _ else _) = _
      rw [if_neg gk.symm, if_neg mk.symm, if_pos rfl]
    · rw [setN_ne z]
      exact (rn _ (.inr (.inr (.inr (.inr (.inr ⟨i, by omega, .inr (.inr rfl)⟩)))))).trans (R.ke i (by omega))
  · show ∃ vs : List V, H' (setN c.no n g i) = some (.lst vs) ∧ _
    by_cases z : i = n
    · subst z
      rw [setN_same]
      refine ⟨[v], hg, ?_, fun r w y => ?_⟩
      · unfold NS.done
        rw [hd]
        rfl
      · have hr : r = 0 := by
          have := (List.getElem?_eq_some_iff.1 y).1
          simp at this
          exact this
        subst hr
        simp at y
        subst y
        exact hv
    · rw [setN_ne z]
      obtain ⟨vs, a1, a2, a3⟩ := N.no i (by omega)
      exact ⟨vs, kp _ _ _ a1 (R.no i (by omega)) (by omega) (by omega) (by omega) (by omega), a2, fun r w q => (a3 r w q).up fr⟩
  · show H' (setN c.mi n m i) = _
    by_cases z : i = n
    · subst z
      rw [setN_same, hd]
      exact hm
    · rw [setN_ne z]
      exact kp _ _ _ (N.mi i (by omega)) (R.mi i (by omega)) (by omega) (by omega) (by omega) (by omega)
  · show ∃ kvs, H' (setN c.ke n k i) = some (.dT kvs) ∧ _
    by_cases z : i = n
    · subst z
      rw [setN_same]
      exact ⟨[], hk, Nat.zero_le _, fun _ h => by simp at h, fun r j _ _ => hK r j, fun _ _ _ _ h => by simp [valV_nil] at h⟩
    · rw [setN_ne z]
      obtain ⟨kvs, a1, a2, a3⟩ := N.ke i (by omega)
      exact ⟨kvs, kp _ _ _ a1 (R.ke i (by omega)) (by omega) (by omega) (by omega) (by omega), a2, a3.up fr⟩
section
variable {W : Wd} {K : PySem.W.Frag} {σ : L2.St} {H : Hp} {ta te : TE} {tz : TS} {D : Ends} {P : VP}
/-- xs.append([e]) -/
theorem q_appL1 {l : Addr} {xs : List V} (hl : H l = some (.lst xs)) (ha : Ev ta σ H (.ref l)) (h : EvP te σ H P) (up : ∀ v H H', Ex H H' → P v H → P v H') (hz : xs.length < 100000) (k : ∀ p v H1, H p = none → Ex H H1 → P v H1 → H1 p = some (.lst [v]) → tz D σ (upd H1 l (.lst (xs ++ [.ref p])))) :
    tSeq (tDrop (tBM K "list" rAppend ta (tCons (tLst (tCons te tNil)) tNil))) tz D σ H :=
  ha H (Ex.refl H) _ fun H1 e1 => ⟨.inl ⟨rfl, xs, sq_of (e1 _ _ hl)⟩, h H1 e1 _ fun v H2 e2 p => ⟨by show 1 ≤ sizeLine; decide, fun b hb => ⟨l, xs, .ref b, rfl, rfl, (Ex.new hb) _ _ ((e1.trans e2) _ _ hl), sz_lt hz, k b v _ (fresh_back (e1.trans e2) hb) ((e1.trans e2).trans (Ex.new hb)) (up _ _ _ (Ex.new hb) p) upd_same⟩⟩⟩
/-- xs.append({}) -/
theorem s_appD {l : Addr} {xs : List V} (hl : H l = some (.lst xs)) (ha : Ev ta σ H (.ref l)) (hz : xs.length < 100000) (k : ∀ p H1, H p = none → Ex H H1 → H1 p = some (.dT []) → D.nx σ (upd H1 l (.lst (xs ++ [.ref p])))) :
    tDrop (tBM K "list" rAppend ta (tCons tDNewT tNil)) D σ H :=
  ha H (Ex.refl H) _ fun H1 e1 => ⟨.inl ⟨rfl, xs, sq_of (e1 _ _ hl)⟩, fun b hb => ⟨l, xs, .ref b, rfl, rfl, (Ex.new hb) _ _ (e1 _ _ hl), sz_lt hz, k b _ (fresh_back e1 hb) (e1.trans (Ex.new hb)) upd_same⟩⟩
end
theorem map_snoc {n : Nat} {f : Nat → Addr} {g : Addr} : ((List.range n).map fun i => V.ref (f i)) ++ [.ref g] = (List.range (n + 1)).map fun i => V.ref (setN f n g i) := by
  rw [List.range_succ, List.map_append]
  congr 1
  · refine List.map_congr_left fun i hi => ?_
    rw [setN_ne (by have := List.mem_range.1 hi; omega)]
  · simp [setN_same]
theorem own_put {H : Hp} {nt : Addr} {c : Re} {ia sh a : Addr} {s : Sh} {ins : List Int} {o : HO} (h : OwnOk H nt c ia sh s ins) (n1 : a ≠ nt) (n2 : a ≠ sh) (n3 : a ≠ ia) : OwnOk (upd H a o) nt c ia sh s ins :=
  ⟨(upd_ne n1.symm).trans h.nt, (upd_ne n2.symm).trans h.sh, (upd_ne n3.symm).trans h.i, h.ok, h.n3, h.n5, h.io⟩
def sp__law_net (W : Wd) : GS := fun vs H Q => ∃ (sh ia : Addr) (s : Sh) (ins : List Int), vs = [.ref sh, .ref ia] ∧ ShapeAt H sh s ∧ H ia = some (.tup (ins.map V.int)) ∧ s.Ok ∧ 3 ≤ ins.length ∧ ins.length ≤ 5 ∧ (∀ i, i < ins.length → (ins.getD i 0).natAbs < 2 ^ 64) ∧
  ∀ H' nt c Hs, Ex H H' → Ex H Hs → (∀ a, c.Fp ins.length a → H a = none) → OwnW Hs H' nt c ia sh s ins (begS s ins) → Q (.ref nt) H'
abbrev N__law_net : List Str := ["_law_shape_here", "_law_inputs_here", "_law_net_here", "_law_me"]
theorem sc__law_net : FnScope N__law_net ["_law_shape_here", "_law_inputs_here"] (defScope s_law_net) := ⟨rfl, rfl, rfl, by decide +kernel, rfl, by decide +kernel, by decide +kernel⟩
theorem C__law_net {W : Wd} (T : TopW W) : Cal W "_law_net" 2 (sp__law_net W) := by
  have C__law_begin := C__law_begin T
  have C__law_write := C__law_write T
  refine cal_mk T (d := d_law_net) (ps := ["_law_shape_here", "_law_inputs_here"]) 53 45 rfl rfl rfl rfl rfl fun f fd F => ⟨fng_of F sc__law_net (fun vs H Q h => ?_) (fun cdv A outer s H vs Q hr hg h => ?_), F.bindsN fun _ _ _ _ _ _ us hl => match us, hl with | [_, _], _ => rfl⟩
  · obtain ⟨sh, ia, s, ins, h0, hs, hi, sok, n3, n5, io, q⟩ := h
    first | rfl | (subst h0; rfl)
  · have hu := hu_of hr
    have nd := sc__law_net.nd
    obtain ⟨sh, ia, s, ins, h0, hs, hi, sok, n3, n5, io, q⟩ := h
    try subst h0
    refine ⟨_, (pss_cons (ps_set (i := 2) nd rfl (Or.inl rfl) (pe_lst (pa_cons (pv 1) (pa_cons (pv 0) (pa_cons (pe_lst pa_nil) (pa_cons (pe_lst pa_nil) (pa_cons (pe_lst pa_nil) (pa_cons (pe_lst pa_nil) (pa_cons (pe_lst pa_nil) pa_nil))))))))) (pss_cons (ps_for PassesOwn.never rfl (pi_range1 rfl T.free_range (pa_cons (pe_callB (cr_lenk (K := W.K) rfl) rfl T.free_len boot_len (pa_cons (pv 1) pa_nil)) pa_nil)) (pg_name (i := 3) nd rfl (Or.inl rfl)) (pss_cons (ps_expr (pe_bm PySem.F.plainAttrs_list PySem.F.slot_list_append PySem.F.type_list_append mt_append (pe_ixlk (K := W.K) rfl (pv 2) pe_int (fun _ _ => rfl)) (pa_cons pe_bl pa_nil))) (pss_cons (ps_expr (pe_bm PySem.F.plainAttrs_list PySem.F.slot_list_append PySem.F.type_list_append mt_append (pe_ixlk (K := W.K) rfl (pv 2) pe_int (fun _ _ => rfl)) (pa_cons (pe_lst (pa_cons (pe_cal C__law_begin rfl hr (by decide) hg rfl (pa_cons (pv 0) (pa_cons (pv 3) (pa_cons (pe_ixtk (K := W.K) rfl (pv 1) (pv 3) (fun _ _ => rfl)) pa_nil)))) pa_nil)) pa_nil))) (pss_cons (ps_expr (pe_bm PySem.F.plainAttrs_list PySem.F.slot_list_append PySem.F.type_list_append mt_append (pe_ixlk (K := W.K) rfl (pv 2) pe_int (fun _ _ => rfl)) (pa_cons (pe_lst pa_nil) pa_nil))) (pss_one (ps_expr (pe_bm PySem.F.plainAttrs_list PySem.F.slot_list_append PySem.F.type_list_append mt_append (pe_ixlk (K := W.K) rfl (pv 2) pe_int (fun _ _ => rfl)) (pa_cons pe_dnewT pa_nil)))))))) (pss_cons (ps_for PassesOwn.never rfl (pi_range1 rfl T.free_range (pa_cons (pe_callB (cr_lenk (K := W.K) rfl) rfl T.free_len boot_len (pa_cons (pv 1) pa_nil)) pa_nil)) (pg_name (i := 3) nd rfl (Or.inl rfl)) (pss_one (ps_if (pt_cmpR op_gt (pe_ixlk (K := W.K) rfl (pv 0) pe_int (fun _ _ => rfl)) pe_int (nomark _)) (pss_one (ps_expr (pe_cal C__law_write rfl hr (by decide) hg rfl (pa_cons (pv 2) (pa_cons (pv 3) (pa_cons pe_int pa_nil)))))) pss_nil))) (pss_one (ps_ret (pv 2)))))), ?_⟩
    have len : (ins.map V.int).length = ins.length := List.length_map _
    refine ⟨_, rfl, _, rfl, Nat.zero_le _, fun b hb => ⟨Nat.zero_le _, fun u hu => ⟨Nat.zero_le _, fun no hno => ⟨Nat.zero_le _, fun mi hmi => ⟨Nat.zero_le _, fun ke hke => ⟨by show 7 ≤ sizeLine; decide, fun nt hnt => ?_⟩⟩⟩⟩⟩⟩
    have hu := (show upd H b (.lst []) u = none from hu)
    have xb := Ex.new (o := .lst []) hb
    have xu := Ex.new (o := .lst []) hu
    have xno := Ex.new (o := .lst []) hno
    have xmi := Ex.new (o := .lst []) hmi
    have xke := Ex.new (o := .lst []) hke
    have xnt := Ex.new (o := .lst (ownL ia sh ⟨b, u, no, mi, ke, fun _ => b, fun _ => b, fun _ => b⟩)) hnt
    have b1 : upd H b (.lst []) b = some (.lst []) := upd_same
    have u2 : upd (upd H b (.lst [])) u (.lst []) u = some (.lst []) := upd_same
    have b2 := xu _ _ b1
    have u0 : H u = none := fresh_back xb hu
    generalize hA1 : upd H b (.lst []) = A1 at hu xb xu b1 b2 u2 hno xno hmi xmi hke xke hnt xnt ⊢
    generalize hA2 : upd A1 u (.lst []) = A2 at xu b2 u2 hno xno hmi xmi hke xke hnt xnt ⊢
    have no3 : upd A2 no (.lst []) no = some (.lst []) := upd_same
    have b3 := xno _ _ b2
    have u3 := xno _ _ u2
    have no0 : H no = none := fresh_back (xb.trans xu) hno
    generalize hA3 : upd A2 no (.lst []) = A3 at xno no3 b3 u3 hmi xmi hke xke hnt xnt ⊢
    have mi4 : upd A3 mi (.lst []) mi = some (.lst []) := upd_same
    have b4 := xmi _ _ b3
    have u4 := xmi _ _ u3
    have no4 := xmi _ _ no3
    have mi0 : H mi = none := fresh_back ((xb.trans xu).trans xno) hmi
    generalize hA4 : upd A3 mi (.lst []) = A4 at xmi mi4 b4 u4 no4 hke xke hnt xnt ⊢
    have ke5 : upd A4 ke (.lst []) ke = some (.lst []) := upd_same
    have b5 := xke _ _ b4
    have u5 := xke _ _ u4
    have no5 := xke _ _ no4
    have mi5 := xke _ _ mi4
    have ke0 : H ke = none := fresh_back (((xb.trans xu).trans xno).trans xmi) hke
    generalize hA5 : upd A4 ke (.lst []) = A5 at xke ke5 b5 u5 no5 mi5 hnt xnt ⊢
    have x05 := (((xb.trans xu).trans xno).trans xmi).trans xke
    have nt0 : H nt = none := fresh_back x05 hnt
    have exs : Ex H (upd H nt (.lst (ownL ia sh ⟨b, u, no, mi, ke, fun _ => b, fun _ => b, fun _ => b⟩))) := Ex.new nt0
    have hsnt : upd H nt (.lst (ownL ia sh ⟨b, u, no, mi, ke, fun _ => b, fun _ => b, fun _ => b⟩)) nt = _ := upd_same
    have hsne : ∀ a, H a = none → a ≠ nt → upd H nt (.lst (ownL ia sh ⟨b, u, no, mi, ke, fun _ => b, fun _ => b, fun _ => b⟩)) a = none := fun a h z => (upd_ne z).trans h
    have ex6 : Ex (upd H nt (.lst (ownL ia sh ⟨b, u, no, mi, ke, fun _ => b, fun _ => b, fun _ => b⟩))) (upd A5 nt (.lst (ownL ia sh ⟨b, u, no, mi, ke, fun _ => b, fun _ => b, fun _ => b⟩))) := fun a o h => by
      by_cases z : a = nt
      · subst z
        rw [upd_same] at h ⊢
        exact h
      · rw [upd_ne z] at h ⊢
        exact x05 _ _ h
    generalize upd H nt (.lst (ownL ia sh ⟨b, u, no, mi, ke, fun _ => b, fun _ => b, fun _ => b⟩)) = Hs at exs hsnt hsne ex6
    have bn := ne_of_none b5 hnt
    have un := ne_of_none u5 hnt
    have non := ne_of_none no5 hnt
    have min := ne_of_none mi5 hnt
    have ken := ne_of_none ke5 hnt
    have su := hsne u u0 un
    have sno := hsne no no0 non
    have smi := hsne mi mi0 min
    have ske := hsne ke ke0 ken
    have okc : ∀ c : Re, c.bag = b → c.up = u → c.notes = no → c.missed = mi → c.kept = ke → OwnOk Hs nt c ia sh s ins := fun c h1 h2 h3 h4 h5 => ⟨by rw [hsnt]; simp only [ownL, h1, h2, h3, h4, h5], exs _ _ hs, exs _ _ hi, sok, n3, n5, io⟩
    have N0 : NetAt (upd A5 nt (.lst (ownL ia sh ⟨b, u, no, mi, ke, fun _ => b, fun _ => b, fun _ => b⟩))) 0 ⟨b, u, no, mi, ke, fun _ => b, fun _ => b, fun _ => b⟩ (S0 (dBeg s ins)) :=
      ⟨ro_mk (ne_of_none b1 hu).symm (ne_of_none b2 hno).symm (ne_of_none u2 hno).symm (ne_of_none b3 hmi).symm (ne_of_none u3 hmi).symm (ne_of_none no3 hmi).symm (ne_of_none b4 hke).symm (ne_of_none u4 hke).symm (ne_of_none no4 hke).symm (ne_of_none mi4 hke).symm
        (fun _ h => by omega) (fun _ h => by omega) (fun _ h => by omega) (fun _ _ h => by omega) (fun _ _ h => by omega) (fun _ _ h => by omega) (fun _ _ h => by omega) (fun _ _ h => by omega) (fun _ _ h => by omega),
        ⟨[], xnt _ _ b5, rfl, fun i v l h => by simp at h⟩, xnt _ _ u5, xnt _ _ no5, xnt _ _ mi5, xnt _ _ ke5, fun _ h => by omega, fun _ h => by omega, fun _ h => by omega⟩
    show tSeq _ _ _ _ (upd A5 nt (.lst (ownL ia sh ⟨b, u, no, mi, ke, fun _ => b, fun _ => b, fun _ => b⟩)))
    generalize upd A5 nt (.lst (ownL ia sh ⟨b, u, no, mi, ke, fun _ => b, fun _ => b, fun _ => b⟩)) = H6 at ex6 N0
    have hlA : ∀ {H' : Hp} {σ : L2.St}, Ex Hs H' → σ[1]? = some (some (.ref ia)) → EvA (tCons (tCB (rLenS W.K) (tCons (tVar 1) tNil)) tNil) σ H' [.int (ins.length : Nat)] := fun e h => ea_cons (by rw [← len]; exact ev_lenT (ev_var h) (st_of (e _ _ (exs _ _ hi)))) ea_nil
    refine q_forR1 (n := (ins.length : Nat)) (hlA ex6 rfl) ⟨by omega, by omega⟩
      (fun i σ' H' => ∃ c : Re, (c.bag = b ∧ c.up = u ∧ c.notes = no ∧ c.missed = mi ∧ c.kept = ke) ∧ Ex Hs H' ∧ NetAt H' i c (S0 (dBeg s ins)) ∧ (∀ a, c.Fp i a → H a = none ∧ a ≠ nt) ∧ ∃ y : Option V, σ' = [some (.ref sh), some (.ref ia), some (.ref nt), y])
      (fun H7 e7 => ⟨_, ⟨rfl, rfl, rfl, rfl, rfl⟩, ex6.trans e7, N0.exx e7, fun a h => ?_, none, rfl⟩) ?_ ?_
    · rcases h with rfl | rfl | rfl | rfl | rfl | ⟨i, hi, _⟩
      · exact ⟨hb, bn⟩
      · exact ⟨u0, un⟩
      · exact ⟨no0, non⟩
      · exact ⟨mi0, min⟩
      · exact ⟨ke0, ken⟩
      · omega
    · rintro i σ' H7 hi7 ⟨c, ⟨c1, c2, c3, c4, c5⟩, ex7, N7, fp7, _, rfl⟩
      have hi7 : i < ins.length := by omega
      have ok7 := okc c c1 c2 c3 c4 c5
      obtain ⟨ρ, R⟩ := N7.ro
      have hin : (ins.map V.int)[i]? = some (.int ins[i]) := by simp [hi7]
      -- up
      refine q_app N7.up (ev_own (j := 3) (ok7.ex ex7) (ev_var rfl) rfl) ev_c (by simp; omega) fun H8 e8 => ?_
      have su' : Hs c.up = none := by rw [c2]; exact su
      have sno' : Hs c.notes = none := by rw [c3]; exact sno
      have smi' : Hs c.missed = none := by rw [c4]; exact smi
      have ske' : Hs c.kept = none := by rw [c5]; exact ske
      have x8 : Ex Hs (upd H8 c.up (.lst (((List.range i).map fun i => V.bl ((S0 (dBeg s ins)).up i)) ++ [.bl true]))) := (ex7.trans e8).mut su'
      have F1 : Fr (IsA c.up) H7 (upd H8 c.up (.lst (((List.range i).map fun i => V.bl ((S0 (dBeg s ins)).up i)) ++ [.bl true]))) := fun a o h z => (upd_ne z).trans (e8 _ _ h)
      have up8 : upd H8 c.up (.lst (((List.range i).map fun i => V.bl ((S0 (dBeg s ins)).up i)) ++ [.bl true])) c.up = _ := upd_same
      generalize upd H8 c.up (.lst (((List.range i).map fun i => V.bl ((S0 (dBeg s ins)).up i)) ++ [.bl true])) = B1 at x8 F1 up8 ⊢
      have no8 := F1 _ _ N7.notes (ne_ro R.notes R.up (by decide))
      have mi8 := F1 _ _ N7.missed (ne_ro R.missed R.up (by decide))
      have ke8 := F1 _ _ N7.kept (ne_ro R.kept R.up (by decide))
      -- notes
      refine q_appL1 (P := (MP.isD (beginD s i ins[i])).p) no8 (ev_own (j := 4) (ok7.ex x8) (ev_var rfl) rfl) (ep_cal (vs := [.ref sh, .int (i : Nat), .int ins[i]]) (ea_cons (ev_var rfl) (ea_cons (ev_var rfl) (ea_cons (ev_op (ev_var rfl) (ev_var rfl) (rv_ixT (st_of (x8 _ _ ok7.i)) (atI_nat hin))) ea_nil))) fun H9 e9 Q k => ⟨sh, s, i, ins[i], rfl, e9 _ _ (x8 _ _ ok7.sh), k⟩) (fun _ _ _ e p => (MP.isD _).up (Ex.frT e) p) (by simp; omega) fun g v0 H9 hg0 e9 pv hg => ?_
      have x9 : Ex Hs (upd H9 c.notes (.lst (((List.range i).map fun i => V.ref (c.no i)) ++ [.ref g]))) := (x8.trans e9).mut sno'
      have F2 : Fr (IsA c.notes) B1 (upd H9 c.notes (.lst (((List.range i).map fun i => V.ref (c.no i)) ++ [.ref g]))) := fun a o h z => (upd_ne z).trans (e9 _ _ h)
      have no9 : upd H9 c.notes (.lst (((List.range i).map fun i => V.ref (c.no i)) ++ [.ref g])) c.notes = _ := upd_same
      have gn : g ≠ c.notes := (ne_of_none no8 hg0).symm
      have gmi : g ≠ c.missed := (ne_of_none mi8 hg0).symm
      have gke : g ≠ c.kept := (ne_of_none ke8 hg0).symm
      have gup : g ≠ c.up := (ne_of_none up8 hg0).symm
      have g9 : upd H9 c.notes (.lst (((List.range i).map fun i => V.ref (c.no i)) ++ [.ref g])) g = _ := (upd_ne gn).trans hg
      have pv9 : IsD (upd H9 c.notes (.lst (((List.range i).map fun i => V.ref (c.no i)) ++ [.ref g]))) v0 (beginD s i ins[i]) := (show IsD H9 v0 _ from pv).up (FrT.new fun xs z => by rw [e9 _ _ no8] at z; cases z)
      generalize upd H9 c.notes (.lst (((List.range i).map fun i => V.ref (c.no i)) ++ [.ref g])) = B2 at x9 F2 no9 g9 pv9 ⊢
      have up9 := F2 _ _ up8 (ne_ro R.up R.notes (by decide))
      have mi9 := F2 _ _ mi8 (ne_ro R.missed R.notes (by decide))
      have ke9 := F2 _ _ ke8 (ne_ro R.kept R.notes (by decide))
      -- missed
      refine q_appL mi9 (ev_own (j := 5) (ok7.ex x9) (ev_var rfl) rfl) (el_lst ea_nil (by simp)) (by simp; omega) fun m H10 hm0 e10 hm => ?_
      have x10 : Ex Hs (upd H10 c.missed (.lst (((List.range i).map fun i => V.ref (c.mi i)) ++ [.ref m]))) := (x9.trans e10).mut smi'
      have F3 : Fr (IsA c.missed) B2 (upd H10 c.missed (.lst (((List.range i).map fun i => V.ref (c.mi i)) ++ [.ref m]))) := fun a o h z => (upd_ne z).trans (e10 _ _ h)
      have mi10 : upd H10 c.missed (.lst (((List.range i).map fun i => V.ref (c.mi i)) ++ [.ref m])) c.missed = _ := upd_same
      have mmi : m ≠ c.missed := (ne_of_none mi9 hm0).symm
      have mno : m ≠ c.notes := (ne_of_none no9 hm0).symm
      have mup : m ≠ c.up := (ne_of_none up9 hm0).symm
      have mke : m ≠ c.kept := (ne_of_none ke9 hm0).symm
      have gm : g ≠ m := ne_of_none g9 hm0
      have m10 : upd H10 c.missed (.lst (((List.range i).map fun i => V.ref (c.mi i)) ++ [.ref m])) m = _ := (upd_ne mmi).trans hm
      have pv10 : IsD (upd H10 c.missed (.lst (((List.range i).map fun i => V.ref (c.mi i)) ++ [.ref m]))) v0 (beginD s i ins[i]) := (pv9.ex e10).up (FrT.new fun xs z => by rw [e10 _ _ mi9] at z; cases z)
      generalize upd H10 c.missed (.lst (((List.range i).map fun i => V.ref (c.mi i)) ++ [.ref m])) = B3 at x10 F3 mi10 m10 pv10 ⊢
      have up10 := F3 _ _ up9 (ne_ro R.up R.missed (by decide))
      have no10 := F3 _ _ no9 (ne_ro R.notes R.missed (by decide))
      have ke10 := F3 _ _ ke9 (ne_ro R.kept R.missed (by decide))
      have g10 := F3 _ _ g9 gmi
      -- kept
      refine s_appD ke10 (ev_own (j := 6) (ok7.ex x10) (ev_var rfl) rfl) (by simp; omega) fun k H11 hk0 e11 hk => ?_
      have x11 : Ex Hs (upd H11 c.kept (.lst (((List.range i).map fun i => V.ref (c.ke i)) ++ [.ref k]))) := (x10.trans e11).mut ske'
      have F4 : Fr (IsA c.kept) B3 (upd H11 c.kept (.lst (((List.range i).map fun i => V.ref (c.ke i)) ++ [.ref k]))) := fun a o h z => (upd_ne z).trans (e11 _ _ h)
      have ke11 : upd H11 c.kept (.lst (((List.range i).map fun i => V.ref (c.ke i)) ++ [.ref k])) c.kept = _ := upd_same
      have kke : k ≠ c.kept := (ne_of_none ke10 hk0).symm
      have kmi : k ≠ c.missed := (ne_of_none mi10 hk0).symm
      have kno : k ≠ c.notes := (ne_of_none no10 hk0).symm
      have kup : k ≠ c.up := (ne_of_none up10 hk0).symm
      have gk : g ≠ k := ne_of_none g10 hk0
      have mk : m ≠ k := ne_of_none m10 hk0
      have k11 : upd H11 c.kept (.lst (((List.range i).map fun i => V.ref (c.ke i)) ++ [.ref k])) k = _ := (upd_ne kke).trans hk
      have pv11 : IsD (upd H11 c.kept (.lst (((List.range i).map fun i => V.ref (c.ke i)) ++ [.ref k]))) v0 (beginD s i ins[i]) := (pv10.ex e11).up (FrT.new fun xs z => by rw [e11 _ _ ke10] at z; cases z)
      generalize upd H11 c.kept (.lst (((List.range i).map fun i => V.ref (c.ke i)) ++ [.ref k])) = B4 at x11 F4 ke11 k11 pv11 ⊢
      have F12 : Fr (fun a => a = c.up ∨ a = c.notes ∨ a = c.missed ∨ a = c.kept) H7 B1 := F1.mono fun a z => .inl z
      have F13 := F12.trans (F2.mono fun a z => (.inr (.inl z) : a = c.up ∨ a = c.notes ∨ a = c.missed ∨ a = c.kept))
      have F14 := F13.trans (F3.mono fun a z => (.inr (.inr (.inl z)) : a = c.up ∨ a = c.notes ∨ a = c.missed ∨ a = c.kept))
      have F15 := F14.trans (F4.mono fun a z => (.inr (.inr (.inr z)) : a = c.up ∨ a = c.notes ∨ a = c.missed ∨ a = c.kept))
      have hg7 : H7 g = none := F1.back hg0 gup
      have hm7 : H7 m = none := F13.back hm0 (fun z => by rcases z with z | z | z | z; exact mup z; exact mno z; exact mmi z; exact mke z)
      have hk7 : H7 k = none := F14.back hk0 (fun z => by rcases z with z | z | z | z; exact kup z; exact kno z; exact kmi z; exact kke z)
      have gd : (ins.getD i 0) = ins[i] := by rw [List.getD_eq_getElem?_getD]; simp [hi7]
      have N11 := N7.grow (g := g) (m := m) (k := k) (v := v0) F15 (by
          rw [F4 _ _ up10 (ne_ro R.up R.kept (by decide)), List.range_succ, List.map_append]
          rfl) (by rw [F4 _ _ no10 (ne_ro R.notes R.kept (by decide)), map_snoc]) (by rw [F4 _ _ mi10 (ne_ro R.missed R.kept (by decide)), map_snoc]) (by rw [ke11, map_snoc]) hg7 hm7 hk7 gm gk mk (F4 _ _ g10 gke) (by
          show IsD B4 v0 (beginD s i (ins.getD i 0))
          rw [gd]
          exact pv11) rfl (F4 _ _ m10 mke) k11 fun _ _ => rfl
      have h0 : ∀ x, H7 x = none → H x = none ∧ x ≠ nt := fun x h => ⟨fresh_back (exs.trans ex7) h, fun z => by
        have := ex7 _ _ hsnt
        rw [← z, h] at this
        cases this⟩
      refine ⟨{ c with no := setN c.no i g, mi := setN c.mi i m, ke := setN c.ke i k }, ⟨c1, c2, c3, c4, c5⟩, x11, N11, fun a h => ?_, _, rfl⟩
      rcases h with h | h | h | h | h | ⟨j, hj, h | h | h⟩
      · exact fp7 a (.inl h)
      · exact fp7 a (.inr (.inl h))
      · exact fp7 a (.inr (.inr (.inl h)))
      · exact fp7 a (.inr (.inr (.inr (.inl h))))
      · exact fp7 a (.inr (.inr (.inr (.inr (.inl h)))))
      · have h : a = setN c.no i g j := h
        by_cases z : j = i
        · rw [z, setN_same] at h
          rw [h]
          exact h0 g hg7
        · rw [setN_ne z] at h
          exact fp7 a (.inr (.inr (.inr (.inr (.inr ⟨j, by omega, .inl h⟩)))))
      · have h : a = setN c.mi i m j := h
        by_cases z : j = i
        · rw [z, setN_same] at h
          rw [h]
          exact h0 m hm7
        · rw [setN_ne z] at h
          exact fp7 a (.inr (.inr (.inr (.inr (.inr ⟨j, by omega, .inr (.inl h)⟩)))))
      · have h : a = setN c.ke i k j := h
        by_cases z : j = i
        · rw [z, setN_same] at h
          rw [h]
          exact h0 k hk7
        · rw [setN_ne z] at h
          exact fp7 a (.inr (.inr (.inr (.inr (.inr ⟨j, by omega, .inr (.inr h)⟩)))))
    · rintro σ' H7 ⟨c, ⟨c1, c2, c3, c4, c5⟩, ex7, N7, fp7, y7, rfl⟩
      have ei : ((ins.length : Nat) : Int).toNat = ins.length := by omega
      rw [ei] at N7 fp7
      have OW : OwnW Hs H7 nt c ia sh s ins (begUp s (S0 (dBeg s ins)) ins.length 0) := ⟨ex7, okc c c1 c2 c3 c4 c5, fun a h => hsne a (fp7 a h).1 (fp7 a h).2, N7⟩
      refine q_forR1 (n := (ins.length : Nat)) (hlA ex7 rfl) ⟨by omega, by omega⟩ (fun i σ' H' => OwnW Hs H' nt c ia sh s ins (begUp s (S0 (dBeg s ins)) ins.length i) ∧ ∃ y : Option V, σ' = [some (.ref sh), some (.ref ia), some (.ref nt), y]) (fun H8 e8 => ⟨OW.exx e8, y7, rfl⟩) ?_ ?_
      · rintro i σ' H8 hi8 ⟨OW8, _, rfl⟩
        have hi8 : i < ins.length := by omega
        have hd0 : (begUp s (S0 (dBeg s ins)) ins.length i).done i = 0 := begUp_done i
        refine s_when (b := decide (0 < s.rounds)) (et_test (ev_is (ev_op (ev_op (ev_var rfl) ev_c (rv_ixL OW8.so.sh.sq (atI_nat (j := 0) rfl))) ev_c rv_I0) (congrArg V.bl (show decide ((0 : Int) < (s.rounds : Int)) = _ from decide_eq_decide.2 (by omega))))) (fun h H9 e9 => ?_) fun h H9 e9 => ?_
        · have hlt := of_decide_eq_true h
          refine s_mut (vs := [.ref nt, .int i, .int (0 : Nat)]) (ea_cons (ev_var rfl) (ea_cons (ev_var rfl) (ea_cons ev_c ea_nil))) fun H10 e10 => ⟨Hs, nt, c, ia, sh, s, ins, _, i, 0, rfl, (OW8.exx e9).exx e10, hi8, Nat.zero_le _, ?_, fun H11 f11 N11 => ⟨⟨?_, OW.st, OW.free, ?_⟩, _, rfl⟩⟩
          · have := begUp_len (s := s) (S := S0 (dBeg s ins)) n5 i
            have : (S0 (dBeg s ins)).bag.length = 0 := rfl
            omega
          · exact ((OW8.exx e9).exx e10).exf f11 fun a z => .inl z
          · unfold begUp
            rw [if_pos hlt]
            exact N11
        · have hge := of_decide_eq_false h
          refine ⟨?_, _, rfl⟩
          unfold begUp
          rw [if_neg hge]
          exact OW8.exx e9
      · rintro σ' H8 ⟨OW8, _, rfl⟩
        rw [ei] at OW8
        exact s_retE (v := .ref nt) (ev_var rfl) fun v H9 e9 p => by
          have p : v = .ref nt := p
          subst p
          exact q H9 nt c Hs (exs.trans (OW8.ex.trans e9)) exs (fun a h => (fp7 a h).1) (OW8.exx e9)
end Kn

set_option Elab.async false
set_option linter.all false
set_option maxRecDepth 100000
set_option maxHeartbeats 4000000
/-! the law's own runs; what is lengthened, what stays -/
namespace Kn
open PySem PySem.Spec PyProof.Rows L2 Evl
local macro_rules | `(tactic| walk_at "ev") => `(tactic| first
  | ((with_reducible apply ev_var); exact rfl)
  | with_reducible exact ev_c
  | with_reducible exact ea_nil
  | ((with_reducible apply ea_cons) <;> walk_at "ev")
  | ((with_reducible apply ev_int); walk_at "ev")
  | ((with_reducible apply ev_op) <;> walk_at "ev")
  | ((with_reducible apply ev_un) <;> walk_at "ev")
  | with_reducible exact rv_I0
  | with_reducible exact rv_isN
  | ((with_reducible apply rv_eq); exact rfl)
  | ((with_reducible apply rv_ne); exact rfl)
  | with_reducible exact ru_neg
  | ((with_reducible apply rv_I); first | exact Or.inl (by decide) | decide | assumption | skip)
  | ((with_reducible apply rv_ixL) <;> first | assumption | exact rfl | skip)
  | ((with_reducible apply rv_ixT) <;> first | assumption | exact rfl | skip)
  | ((with_reducible apply ev_fld) <;> first | walk_at "ev" | assumption | exact rfl | skip)
  | ((with_reducible apply ev_len) <;> first | walk_at "ev" | assumption | skip)
  | ((with_reducible apply ev_lenT) <;> first | walk_at "ev" | assumption | skip)
  | exact rv_eq rfl
  | exact rv_ne rfl
  | assumption
  | skip)
section
variable {W : Wd} {K : PySem.W.Frag} {σ : L2.St} {H : Hp} {ta tb te : TE} {tz : TS} {D : Ends} {x : V}
/-- x, l = e, [] -/
theorem q_asg2L {i j : Nat} (h : Ev ta σ H x) (k : ∀ l H1, H l = none → Ex H H1 → H1 l = some (.lst []) → tz D ((σ.set i (some x)).set j (some (.ref l))) H1) : tSeq (tAsg (tTup (tCons ta (tCons (tLst tNil) tNil))) (gTup K 2 (gCons (gName i) (gCons (gName j) gNil)))) tz D σ H :=
  h H (Ex.refl H) _ fun H1 e1 => ⟨Nat.zero_le _, fun l hl => ⟨by show 2 ≤ sizeLine; decide, fun t ht => ⟨t, _, rfl, st_of upd_same, rfl, _, _, rfl, _, _, rfl, rfl, k l _ (fresh_back e1 hl) ((e1.trans (Ex.new hl)).trans (Ex.new ht)) ((Ex.new ht) _ _ upd_same)⟩⟩⟩
end
/-- a list at v, not f, whose items are told -/
def LstN (f : Addr) (n : Nat) (P : Nat → MP) (v : V) (H : Hp) : Prop := ∃ (a : Addr) (vs : List V), v = .ref a ∧ a ≠ f ∧ H a = some (.lst vs) ∧ vs.length = n ∧ ∀ (i : Nat) (v : V), vs[i]? = some v → (P i).p v H
theorem LstN.up {f : Addr} {n : Nat} {P : Nat → MP} {v : V} {H H' : Hp} (h : LstN f n P v H) (e : Ex H H') : LstN f n P v H' := by
  obtain ⟨a, vs, h1, h2, h3, h4, h5⟩ := h
  exact ⟨a, vs, h1, h2, e _ _ h3, h4, fun i v q => (P i).up (Ex.frT e) (h5 i v q)⟩
theorem LstN.put {f : Addr} {n : Nat} {P : Nat → MP} {v : V} {H : Hp} {o : HO} {xs : List V} (h : LstN f n P v H) (hf : H f = some (.lst xs)) : LstN f n P v (upd H f o) := by
  obtain ⟨a, vs, h1, h2, h3, h4, h5⟩ := h
  exact ⟨a, vs, h1, h2, (upd_ne h2).trans h3, h4, fun i v q => (P i).up (FrT.new fun ys z => by rw [hf] at z; cases z) (h5 i v q)⟩
abbrev ownP (s : Sh) (ins : List Int) (p : List (List (Option Nat))) (r : Nat) : Nat → MP := fun me => MP.isD (runD s ins.length ins (patF p) r me)
/-- the law's own runs at f -/
def RunsAt (H : Hp) (f : Addr) (s : Sh) (ins : List Int) (p : List (List (Option Nat))) : Prop := ∃ acc : List V, H f = some (.lst acc) ∧ acc.length = s.rounds + 1 ∧ ∀ (r : Nat) (v : V), acc[r]? = some v → LstP ins.length (ownP s ins p r) v H
structure RunO (H : Hp) (s : Sh) (sh ia pa : Addr) (ins : List Int) (p : List (List (Option Nat))) : Prop where
  sh : ShapeAt H sh s
  i : H ia = some (.tup (ins.map V.int))
  pt : PatAt H pa p
  ok : s.Ok
  po : PatOk ins.length p
  n3 : 3 ≤ ins.length
  n5 : ins.length ≤ 5
  io : ∀ i, i < ins.length → (ins.getD i 0).natAbs < 2 ^ 64
  pl : p.length = s.rounds
theorem RunO.ex {H H' : Hp} {s : Sh} {sh ia pa : Addr} {ins : List Int} {p : List (List (Option Nat))} (h : RunO H s sh ia pa ins p) (e : Ex H H') : RunO H' s sh ia pa ins p := ⟨e _ _ h.sh, e _ _ h.i, h.pt.up (Ex.frT e), h.ok, h.po, h.n3, h.n5, h.io, h.pl⟩
def sp__law_runs (W : Wd) : GS := fun vs H Q => ∃ (sh ia pa : Addr) (s : Sh) (ins : List Int) (p : List (List (Option Nat))), vs = [.ref sh, .ref ia, .ref pa] ∧ RunO H s sh ia pa ins p ∧ ∀ f H', Ex H H' → RunsAt H' f s ins p → Q (.ref f) H'
abbrev N__law_runs : List Str := ["_law_shape_here", "_law_inputs_here", "_law_pattern", "_law_found", "_law_number", "_law_ahead", "_law_later", "_law_me", "_law_heard", "_law_other"]
theorem sc__law_runs : FnScope N__law_runs ["_law_shape_here", "_law_inputs_here", "_law_pattern"] (defScope s_law_runs) := ⟨rfl, rfl, rfl, by decide +kernel, rfl, by decide +kernel, by decide +kernel⟩
theorem C__law_runs {W : Wd} (T : TopW W) : Cal W "_law_runs" 2 (sp__law_runs W) := by
  have C__law_begin := C__law_begin T
  have C__law_step := C__law_step T
  refine cal_mk T (d := d_law_runs) (ps := ["_law_shape_here", "_law_inputs_here", "_law_pattern"]) 59 51 rfl rfl rfl rfl rfl fun f fd F => ⟨fng_of F sc__law_runs (fun vs H Q h => ?_) (fun cdv A outer s H vs Q hr hg h => ?_), F.bindsN fun _ _ _ _ _ _ us hl => match us, hl with | [_, _, _], _ => rfl⟩
  · obtain ⟨sh, ia, pa, s, ins, p, h0, ro, q⟩ := h
    first | rfl | (subst h0; rfl)
  · have hu := hu_of hr
    have nd := sc__law_runs.nd
    obtain ⟨sh, ia, pa, s, ins, p, h0, ro, q⟩ := h
    try subst h0
    refine ⟨_, (pss_cons (ps_set (i := 3) nd rfl (Or.inl rfl) (pe_lst (pa_cons (pe_lc (own := [("_law_me", 7)]) rfl nd (pi_range1 rfl T.free_range (pa_cons (pe_callB (cr_lenk (K := W.K) rfl) rfl T.free_len boot_len (pa_cons (pv 1) pa_nil)) pa_nil)) (blkOk_by (own := [("_law_me", 7)]) (N := N__law_runs) (sc := defScope s_law_runs) (by decide +kernel)) (fun _ _ _ _ _ => (pg_name (i := 7) nd rfl (Or.inl rfl))) (fun _ _ _ _ _ => pts_nil) (fun _ _ _ _ _ => (pe_cal C__law_begin rfl hr (by decide) hg rfl (pa_cons (pv 0) (pa_cons (pv 7) (pa_cons (pe_ixtk (K := W.K) rfl (pv 1) (pv 7) (fun _ _ => rfl)) pa_nil)))))) pa_nil))) (pss_cons (ps_for PassesOwn.never rfl (pi_range1 rfl T.free_range (pa_cons (pe_callB (cr_lenk (K := W.K) rfl) rfl T.free_len boot_len (pa_cons (pv 2) pa_nil)) pa_nil)) (pg_name (i := 4) nd rfl (Or.inr rfl)) (pss_cons (ps_asg (pe_tup (pa_cons (pe_ixlk (K := W.K) rfl (pv 3) (pe_un un_neg pe_int) (fun _ _ => rfl)) (pa_cons (pe_lst pa_nil) pa_nil))) (pg_tupk (K := W.K) (n := 2) rfl rfl (pgs_cons (pg_name (i := 5) nd rfl (Or.inr rfl)) (pgs_cons (pg_name (i := 6) nd rfl (Or.inl rfl)) pgs_nil)) rfl)) (pss_cons (ps_for PassesOwn.never rfl (pi_range1 rfl T.free_range (pa_cons (pe_callB (cr_lenk (K := W.K) rfl) rfl T.free_len boot_len (pa_cons (pv 1) pa_nil)) pa_nil)) (pg_name (i := 7) nd rfl (Or.inr rfl)) (pss_cons (ps_set (i := 8) nd rfl (Or.inl rfl) (pe_callTy (cr_tupk (K := W.K) rfl) rfl T.free_tuple boot_tuple (pa_cons (pe_lc (own := [("_law_other", 9)]) rfl nd (pi_range1 rfl T.free_range (pa_cons (pe_callB (cr_lenk (K := W.K) rfl) rfl T.free_len boot_len (pa_cons (pv 1) pa_nil)) pa_nil)) (blkOk_by (own := [("_law_other", 9)]) (N := N__law_runs) (sc := defScope s_law_runs) (by decide +kernel)) (fun _ _ _ _ _ => (pg_name (i := 9) nd rfl (Or.inl rfl))) (fun _ _ _ _ _ => pts_nil) (fun _ _ _ _ _ => (pe_ifExp (pt_cmpR op_eq (pv 9) (pe_ixtk (K := W.K) rfl (pe_ixtk (K := W.K) rfl (pv 2) (pv 4) (fun _ _ => rfl)) (pv 7) (fun _ _ => rfl)) (nomark _)) pe_non (pe_ixlk (K := W.K) rfl (pv 5) (pv 9) (fun _ _ => rfl))))) pa_nil))) (pss_one (ps_expr (pe_bm PySem.F.plainAttrs_list PySem.F.slot_list_append PySem.F.type_list_append mt_append (pv 6) (pa_cons (pe_cal C__law_step rfl hr (by decide) hg rfl (pa_cons (pv 0) (pa_cons (pv 7) (pa_cons (pv 4) (pa_cons (pv 8) pa_nil))))) pa_nil)))))) (pss_one (ps_expr (pe_bm PySem.F.plainAttrs_list PySem.F.slot_list_append PySem.F.type_list_append mt_append (pv 3) (pa_cons (pv 6) pa_nil))))))) (pss_one (ps_ret (pv 3))))), ?_⟩
    have n5 := ro.n5
    have n3 := ro.n3
    have r12 := ro.ok.r
    have hpl := ro.pl
    have len : (ins.map V.int).length = ins.length := List.length_map _
    have rmem : ∀ r me, me < ins.length → r ≤ s.rounds → MemOk s r (runD s ins.length ins (patF p) r me) := fun r me hm hr => run_mem ro.ok (by omega) n5 ro.io r me hm hr
    obtain ⟨ps, hp1, hp2, hp3⟩ := ro.pt
    have hlA : ∀ {H' : Hp} {σ : L2.St}, Ex H H' → σ[1]? = some (some (.ref ia)) → EvA (tCons (tCB (rLenS W.K) (tCons (tVar 1) tNil)) tNil) σ H' [.int (ins.length : Nat)] := fun e h => ea_cons (by rw [← len]; exact ev_lenT (ev_var h) (st_of (e _ _ ro.i))) ea_nil
    -- at first
    refine q_asgL1 (P := LstP ins.length (ownP s ins p 0)) (ep_lcR (ownP s ins p 0) (hlA (Ex.refl H) rfl) (by omega) (fun _ => rfl) fun i hi => ?_) (fun v H1 H2 e h => by
      obtain ⟨a, vs, h1, h2, h3, h4⟩ := h
      exact ⟨a, vs, h1, e _ _ h2, h3, fun i v q => (MP.isD _).up (Ex.frT e) (h4 i v q)⟩) fun f v0 H1 hf0 e1 pv hf => ?_
    · have hin : (ins.map V.int)[i]? = some (.int ins[i]) := by simp [hi]
      refine ep_cal (vs := [.ref sh, .int (i : Nat), .int ins[i]]) (ea_cons (ev_var rfl) (ea_cons (ev_var rfl) (ea_cons (ev_op (ev_var rfl) (ev_var rfl) (rv_ixT (st_of ro.i) (atI_nat hin))) ea_nil))) fun H9 e9 Q k => ⟨sh, s, i, ins[i], rfl, e9 _ _ ro.sh, ?_⟩
      have gd : (ins.getD i 0) = ins[i] := by rw [List.getD_eq_getElem?_getD]; simp [hi]
      rw [← gd]
      exact k
    have pv0 : LstN f ins.length (ownP s ins p 0) v0 H1 := by
      obtain ⟨a, vs, h1, h2, h3, h4⟩ := pv
      refine ⟨a, vs, h1, fun z => ?_, h2, h3, h4⟩
      subst z
      rw [hf] at h2
      have e : vs = [v0] := (HO.lst.inj (Option.some.inj h2)).symm
      rw [e] at h3
      simp at h3
      omega
    refine q_forR1 (n := (p.length : Nat)) (ea_cons (by rw [← hp2]; exact ev_lenT (ev_var rfl) (st_of (e1 _ _ hp1))) ea_nil) ⟨by omega, by omega⟩
      (fun i σ' H' => Ex H H' ∧ ∃ (acc : List V) (y4 y5 y6 y7 y8 y9 : Option V), H' f = some (.lst acc) ∧ acc.length = i + 1 ∧ (∀ (r : Nat) (v : V), acc[r]? = some v → LstN f ins.length (ownP s ins p r) v H') ∧ σ' = [some (.ref sh), some (.ref ia), some (.ref pa), some (.ref f), y4, y5, y6, y7, y8, y9])
      (fun H2 e2 => ⟨e1.trans e2, [v0], none, none, none, none, none, none, e2 _ _ hf, rfl, fun r v z => ?_, rfl⟩) ?_ ?_
    · have hr : r = 0 := by
        have := (List.getElem?_eq_some_iff.1 z).1
        simp at this
        exact this
      subst hr
      simp at z
      subst z
      exact pv0.up e2
    · rintro i σ' H2 hi ⟨e2, acc, _, _, _, _, _, _, hacc, hlen, hall, rfl⟩
      have hi : i < p.length := by omega
      have hil : i < acc.length := by omega
      have hxi : acc[i]? = some acc[i] := by simp [hil]
      obtain ⟨aa, ws, ha1, ha2, ha3, ha4, ha5⟩ := hall i _ hxi
      have hrow : p[i]? = some p[i] := by simp [hi]
      have hpx : ps[i]? = some (ps[i]'(by omega)) := by simp [hp2, hi]
      obtain ⟨rb, hrb1, hrb2⟩ := hp3 i _ p[i] hpx hrow
      rw [hrb1] at hpx
      have hrok := ro.po _ (List.getElem_mem hi)
      have hgd : ∀ me, patF p i me = p[i].getD me none := fun me => by unfold patF; rw [List.getD_eq_getElem?_getD (l := p), hrow]; rfl
      refine q_asg2L (x := .ref aa) (by rw [← ha1]; exact ev_op (ev_var rfl) (ev_un ev_c ru_neg) (rv_ixL (sq_of hacc) (atI_neg1 hlen hxi))) fun l H3 hl0 e3 hl => ?_
      have nlf : l ≠ f := (ne_of_none hacc hl0).symm
      have e23 := e2.trans e3
      refine q_forR1 (n := (ins.length : Nat)) (hlA e23 rfl) ⟨by omega, by omega⟩
        (fun j σ' H' => Ex H2 H' ∧ ∃ (la : List V) (y7 y8 y9 : Option V), H' l = some (.lst la) ∧ la.length = j ∧ (∀ (me : Nat) (v : V), la[me]? = some v → (ownP s ins p (i + 1) me).p v H') ∧ σ' = [some (.ref sh), some (.ref ia), some (.ref pa), some (.ref f), some (.int (i : Nat)), some (.ref aa), some (.ref l), y7, y8, y9])
        (fun H4 e4 => ⟨e3.trans e4, [], _, _, _, e4 _ _ hl, rfl, fun me v z => by simp at z, rfl⟩) ?_ ?_
      · rintro me σ' H4 hme ⟨e4, la, _, _, _, hla, hlal, hlaa, rfl⟩
        have hme : me < ins.length := by omega
        have e04 := e2.trans e4
        have haa := e4 _ _ ha3
        have hmp : ∃ m : Option Nat, p[i][me]? = some m := ⟨p[i][me]'(by rw [hrok.1]; exact hme), by simp [hrok.1, hme]⟩
        obtain ⟨m, hm⟩ := hmp
        have hm2 : patF p i me = m := by rw [hgd, List.getD_eq_getElem?_getD, hm]; rfl
        have hmr : (p[i].map oV)[me]? = some (oV m) := by rw [List.getElem?_map, hm]; rfl
        refine q_asgP (P := (MP.tup ins.length fun o => MP.isD (if m = some o then .none else runD s ins.length ins (patF p) i o)).p) (ep_tupOf (ep_lcR (fun o => MP.isD (if m = some o then .none else runD s ins.length ins (patF p) i o)) (hlA e04 rfl) (by omega) (fun _ => rfl) fun o ho => ?_)) fun hv H5 e5 phv => ?_
        · have hwo : ws[o]? = some (ws[o]'(by omega)) := by simp [ha4, ho]
          refine ep_if (b := decide (m = some o)) (et_is (et_test (ev_op (ev_var rfl) (ev_op (ev_op (ev_var rfl) (ev_var rfl) (rv_ixT (st_of (e04 _ _ hp1)) (atI_nat hpx))) (ev_var rfl) (rv_ixT (st_of (e04 _ _ hrb2)) (atI_nat hmr))) (rv_eq scal_oV))) dec_oV) (fun h => ?_) fun h => ?_
          · rw [if_pos (of_decide_eq_true h)]
            exact ep_is ev_c fun _ _ => .non
          · rw [if_neg (of_decide_eq_false h)]
            exact ep_is (ev_op (ev_var rfl) (ev_var rfl) (rv_ixL (sq_of haa) (atI_nat hwo))) fun H' e' => (ha5 o _ hwo).up (Ex.frT (e4.trans e'))
        · obtain ⟨ha, hs, rfl, h2, h3, h4⟩ := phv
          have hla5 := e5 _ _ hla
          refine s_appP (P := (ownP s ins p (i + 1) me).p) hla5 (ev_var rfl) (ep_cal (vs := [.ref sh, .int (me : Nat), .int (i : Nat), .ref ha]) (by walk_at "ev") fun H6 e6 Q k => ?_) (by omega) fun v H6 e6 pv => ?_
          · refine ⟨sh, ha, s, ins.length, me, i, runD s ins.length ins (patF p) i me, fun o => if m = some o then .none else runD s ins.length ins (patF p) i o, rfl, (e04.trans (e5.trans e6)) _ _ ro.sh, ⟨hs, e6 _ _ h2, h3, fun o w z => (h4 o w z).ex e6⟩, n5, fun o ho => ?_, ro.ok, ?_⟩
            · show HeardOk s i (if m = some o then .none else runD s ins.length ins (patF p) i o)
              split
              · exact .inl rfl
              · exact .inr (rmem i o ho (by omega))
            · rw [← hm2]
              exact k
          · have hl6 := e6 _ _ hla5
            have frl : FrT H6 (upd H6 l (.lst (la ++ [v]))) := FrT.new fun xs q => by rw [hl6] at q; cases q
            refine ⟨(e4.trans (e5.trans e6)).mut hl0, la ++ [v], _, _, _, upd_same, by simp [hlal], fun j w z => ?_, rfl⟩
            by_cases hj : j < la.length
            · rw [List.getElem?_append_left hj] at z
              exact (MP.isD _).up ((Ex.frT (e5.trans e6)).trans frl) (hlaa j w z)
            · have hj2 : j = me := by
                have := (List.getElem?_eq_some_iff.1 z).1
                simp at this
                omega
              subst hj2
              have z2 : (la ++ [v])[la.length]? = some w := by rw [hlal]; exact z
              simp at z2
              subst z2
              exact (MP.isD _).up frl pv
      · rintro σ' H4 ⟨e4, la, _, _, _, hla, hlal, hlaa, rfl⟩
        have hlal : la.length = ins.length := by simpa using hlal
        have hf4 := e4 _ _ hacc
        refine s_app hf4 (ev_var rfl) (ev_var rfl) (by omega) fun H5 e5 => ?_
        have hf5 := e5 _ _ hf4
        have e25 := e4.trans e5
        refine ⟨(e2.trans e25).mut hf0, acc ++ [.ref l], _, _, _, _, _, _, upd_same, by simp [hlen], fun r v z => ?_, rfl⟩
        by_cases hr : r < acc.length
        · rw [List.getElem?_append_left hr] at z
          exact ((hall r v z).up e25).put hf5
        · have hr2 : r = i + 1 := by
            have := (List.getElem?_eq_some_iff.1 z).1
            simp at this
            omega
          subst hr2
          have z2 : (acc ++ [V.ref l])[acc.length]? = some v := by rw [hlen]; exact z
          simp at z2
          subst z2
          exact LstN.put (f := f) ⟨l, la, rfl, nlf, e5 _ _ hla, hlal, fun j w z => (MP.isD _).up (Ex.frT e5) (hlaa j w z)⟩ hf5
    · rintro σ' H2 ⟨e2, acc, _, _, _, _, _, _, hacc, hlen, hall, rfl⟩
      have hlen : acc.length = s.rounds + 1 := by simpa [hpl] using hlen
      refine s_retE (v := .ref f) (ev_var rfl) fun v H3 e3 pv => ?_
      have pv : v = .ref f := pv
      subst pv
      refine q f H3 (e2.trans e3) ⟨acc, e3 _ _ hacc, hlen, fun r v z => ?_⟩
      obtain ⟨a, vs, h1, h2, h3, h4, h5⟩ := (hall r v z).up e3
      exact ⟨a, vs, h1, h3, h4, h5⟩
end Kn

set_option Elab.async false
set_option linter.all false
set_option maxRecDepth 100000
set_option maxHeartbeats 4000000
/-! what is lengthened, what stays, a pattern filled -/
namespace Kn
open PySem PySem.Spec PyProof.Rows L2 Evl
local macro_rules | `(tactic| walk_at "ev") => `(tactic| first
  | ((with_reducible apply ev_var); exact rfl)
  | with_reducible exact ev_c
  | with_reducible exact ea_nil
  | ((with_reducible apply ea_cons) <;> walk_at "ev")
  | ((with_reducible apply ev_int); walk_at "ev")
  | ((with_reducible apply ev_op) <;> walk_at "ev")
  | ((with_reducible apply ev_un) <;> walk_at "ev")
  | with_reducible exact rv_I0
  | with_reducible exact rv_isN
  | ((with_reducible apply rv_eq); exact rfl)
  | ((with_reducible apply rv_ne); exact rfl)
  | with_reducible exact ru_neg
  | ((with_reducible apply rv_I); first | exact Or.inl (by decide) | decide | assumption | skip)
  | ((with_reducible apply rv_ixL) <;> first | assumption | exact rfl | skip)
  | ((with_reducible apply rv_ixT) <;> first | assumption | exact rfl | skip)
  | ((with_reducible apply ev_fld) <;> first | walk_at "ev" | assumption | exact rfl | skip)
  | ((with_reducible apply ev_len) <;> first | walk_at "ev" | assumption | skip)
  | ((with_reducible apply ev_lenT) <;> first | walk_at "ev" | assumption | skip)
  | exact rv_eq rfl
  | exact rv_ne rfl
  | assumption
  | skip)
abbrev MissP (n : Nat) (ms : Nat → List (Option Nat)) : MP := MP.tup n fun me => MP.tupX ((ms me).map oV)
abbrev ToldP (n : Nat) (a : Nat → Option Int) : MP := MP.tup n fun me => MP.eq (iV (a me))
def dMs (l : List (Option Nat)) : PyData := .tuple (l.map oD)
theorem isD_ms {H : Hp} {a : Addr} {l : List (Option Nat)} (h : H a = some (.tup (l.map oV))) : IsD H (.ref a) (dMs l) := .tup h (isDs_map isD_o l)
theorem shaped_ms (l : List (Option Nat)) : SeqAt.shaped (dMs l) = true := by
  have h1 : ∀ l : List (Option Nat), PyData.canLayAll0 (l.map oD) = true := fun l => by
    induction l with
    | nil => simp [PyData.canLayAll0]
    | cons m l ih =>
      rw [List.map_cons]
      cases m <;> simp [PyData.canLayAll0, PyData.canLay0, oD, ih]
  have h2 : PyData.depthAll (l.map oD) ≤ 0 := depthAll_of fun d hd => by
    obtain ⟨m, _, rfl⟩ := List.mem_map.1 hd
    cases m <;> simp [oD, PyData.depth]
  have h3 : (dMs l).canLay0 = true := by
    unfold dMs
    simp only [PyData.canLay0]
    exact h1 l
  have h4 : (dMs l).depth ≤ 64 := by
    unfold dMs
    simp only [PyData.depth]
    omega
  unfold SeqAt.shaped
  rw [h3, Bool.true_and]
  exact decide_eq_true h4
theorem eqv_ms (l : List (Option Nat)) : PyData.eqv (dMs l) (dMs l) = true := by
  have h : ∀ l : List (Option Nat), PyData.eqvAll (l.map oD) (l.map oD) = true := fun l => by
    induction l with
    | nil => simp [PyData.eqvAll]
    | cons m l ih =>
      rw [List.map_cons]
      cases m <;> simp [PyData.eqvAll, PyData.eqv, oD, ih]
  unfold dMs
  simp only [PyData.eqv]
  exact h l
theorem cut_front {xs ys : List V} : cutV (xs ++ ys) none (some (xs.length : Nat)) = xs := by
  unfold cutV
  have h1 : HT.sIx (xs ++ ys).length 0 none = 0 := rfl
  have h2 : HT.sIx (xs ++ ys).length (xs ++ ys).length (some ((xs.length : Nat) : Int)) = xs.length := by
    unfold HT.sIx
    simp
    omega
  rw [h1, h2]
  simp
def sp__law_lengthened (W : Wd) : GS := fun vs H Q => ∃ (ea ma : Addr) (n : Nat) (m0 m1 : Nat → List (Option Nat)), vs = [.ref ea, .ref ma] ∧ (MissP n m0).p (.ref ea) H ∧ (MissP n m1).p (.ref ma) H ∧ (∀ me, me < n → ∃ r, m1 me = m0 me ++ r) ∧ n ≤ 5 ∧ Ret (MP.eq (.bl true)).p H Q
abbrev N__law_lengthened : List Str := ["_law_elder", "_law_missed", "_law_me"]
theorem sc__law_lengthened : FnScope N__law_lengthened ["_law_elder", "_law_missed"] (defScope s_law_lengthened) := ⟨rfl, rfl, rfl, by decide +kernel, rfl, by decide +kernel, by decide +kernel⟩
theorem C__law_lengthened {W : Wd} (T : TopW W) : Cal W "_law_lengthened" 1 (sp__law_lengthened W) := by
  refine cal_mk T (d := d_law_lengthened) (ps := ["_law_elder", "_law_missed"]) 62 54 rfl rfl rfl rfl rfl fun f fd F => ⟨fng_of F sc__law_lengthened (fun vs H Q h => ?_) (fun cdv A outer s H vs Q hr hg h => ?_), F.bindsN fun _ _ _ _ _ _ us hl => match us, hl with | [_, _], _ => rfl⟩
  · obtain ⟨ea, ma, n, m0, m1, h0, he, hm, hl, hn, q⟩ := h
    first | rfl | (subst h0; rfl)
  · have hu := hu_of hr
    have nd := sc__law_lengthened.nd
    obtain ⟨ea, ma, n, m0, m1, h0, he, hm, hl, hn, q⟩ := h
    try subst h0
    refine ⟨_, (pss_one (ps_ret (pe_callB (cr_allk (K := W.K) rfl rfl) rfl T.free_all boot_all (pa_cons (pe_lc (own := [("_law_me", 2)]) rfl nd (pi_range1 rfl T.free_range (pa_cons (pe_callB (cr_lenk (K := W.K) rfl) rfl T.free_len boot_len (pa_cons (pv 1) pa_nil)) pa_nil)) (blkOk_by (own := [("_law_me", 2)]) (N := N__law_lengthened) (sc := defScope s_law_lengthened) (by decide +kernel)) (fun _ _ _ _ _ => (pg_name (i := 2) nd rfl (Or.inl rfl))) (fun _ _ _ _ _ => pts_nil) (fun _ _ _ _ _ => (pe_cmpR (op_eqDk (K := W.K) rfl hr.units) (pe_slice (sl_tupk (K := W.K) rfl) (pe_ixtk (K := W.K) rfl (pv 1) (pv 2) (fun _ _ => rfl)) po_none (po_some (pe_callB (cr_lenk (K := W.K) rfl) rfl T.free_len boot_len (pa_cons (pe_ixtk (K := W.K) rfl (pv 0) (pv 2) (fun _ _ => rfl)) pa_nil)))) (pe_ixtk (K := W.K) rfl (pv 0) (pv 2) (fun _ _ => rfl)) (nomark _)))) pa_nil)))), ?_⟩
    obtain ⟨_, es, x1, x2, x3, x4⟩ := he
    cases x1
    obtain ⟨_, ws, y1, y2, y3, y4⟩ := hm
    cases y1
    refine s_retE (ev_allT (n := n) (ep_lcR (fun _ => MP.eq (.bl true)) (ea_cons (by rw [← y3]; exact ev_lenT (ev_var rfl) (st_of y2)) ea_nil) (by omega) (fun _ => rfl) fun i hi => ?_)) q
    have hes : es[i]? = some (es[i]'(by omega)) := by simp [x3, hi]
    have hws : ws[i]? = some (ws[i]'(by omega)) := by simp [y3, hi]
    obtain ⟨a, ha, hae⟩ := x4 i _ hes
    obtain ⟨b, hb, hbe⟩ := y4 i _ hws
    rw [ha] at hes
    rw [hb] at hws
    obtain ⟨r, hr1⟩ := hl i hi
    rw [hr1, List.map_append] at hbe
    have hlen : ((m0 i).map oV).length = (m0 i).length := List.length_map _
    have evB : ∀ {σ : L2.St} {H' : Hp}, Ex H H' → σ[1]? = some (some (.ref ma)) → σ[2]? = some (some (.int (i : Nat))) → Ev (tOp (rIxT W.K) (tVar 1) (tVar 2)) σ H' (.ref b) := fun e h1 h2 => ev_op (ev_var h1) (ev_var h2) (rv_ixT (st_of (e _ _ y2)) (atI_nat hws))
    have evA : ∀ {σ : L2.St} {H' : Hp}, Ex H H' → σ[0]? = some (some (.ref ea)) → σ[2]? = some (some (.int (i : Nat))) → Ev (tOp (rIxT W.K) (tVar 0) (tVar 2)) σ H' (.ref a) := fun e h1 h2 => ev_op (ev_var h1) (ev_var h2) (rv_ixT (st_of (e _ _ x2)) (atI_nat hes))
    refine fun H1 e1 Q k => evB e1 rfl rfl H1 (Ex.refl _) _ fun H2 e2 => ?_
    refine (ev_lenT (K := W.K) (evA (e1.trans e2) rfl rfl) (st_of ((e1.trans e2) _ _ hae))) H2 (Ex.refl _) _ fun H3 e3 => ⟨_, rfl, ?_⟩
    have e03 := (e1.trans e2).trans e3
    have fin : ∀ {H4 : Hp} {v : V}, Ex H3 H4 → IsD H4 v (dMs (m0 i)) → tOp (rIxT W.K) (tVar 0) (tVar 2) (List.set (wipe (L2.start N__law_lengthened [.ref ea, .ref ma]) [2]) 2 (some (.int (i : Nat)))) H4 fun y H5 => rEqD W.K v y H5 Q := fun {H4 v} e4 hv => evA (e03.trans e4) rfl rfl H4 (Ex.refl _) _ fun H5 e5 => ⟨_, _, (hv.ex e5).dp, (isD_ms (((e03.trans e4).trans e5) _ _ hae)).dp, shaped_ms _, shaped_ms _, by
      rw [eqv_ms]
      exact k _ H5 (((e2.trans e3).trans e4).trans e5) rfl⟩
    refine ⟨b, (m0 i).map oV ++ r.map oV, rfl, st_of (e03 _ _ hbe), fun hw => ?_, fun hw pa hpa => ?_⟩
    · refine fin (Ex.refl _) ?_
      have : r.map oV = [] := by
        have h2 := hw.2
        unfold HT.sIx at h2
        cases r with
        | nil => rfl
        | cons x r =>
          simp [show ¬ ((m0 i).length : Int) < 0 from by omega] at h2
          try omega
      rw [this, List.append_nil] at hbe
      exact isD_ms (e03 _ _ hbe)
    · have ex := Ex.new (o := .tup (cutV ((m0 i).map oV ++ r.map oV) none (some (((m0 i).map oV).length : Nat)))) hpa
      refine fin ex (isD_ms ?_)
      rw [upd_same, cut_front]
def sp__law_stays (W : Wd) : GS := fun vs H Q => ∃ (ea ta : Addr) (n : Nat) (a0 a1 : Nat → Option Int), vs = [.ref ea, .ref ta] ∧ (ToldP n a0).p (.ref ea) H ∧ (ToldP n a1).p (.ref ta) H ∧ (∀ me, me < n → a0 me ≠ none → a1 me = a0 me) ∧ (∀ me i, me < n → a0 me = some i → i.natAbs < 2 ^ 64) ∧ n ≤ 5 ∧ Ret (MP.eq (.bl true)).p H Q
abbrev N__law_stays : List Str := ["_law_elder", "_law_told_here", "_law_me"]
theorem sc__law_stays : FnScope N__law_stays ["_law_elder", "_law_told_here"] (defScope s_law_stays) := ⟨rfl, rfl, rfl, by decide +kernel, rfl, by decide +kernel, by decide +kernel⟩
theorem C__law_stays {W : Wd} (T : TopW W) : Cal W "_law_stays" 1 (sp__law_stays W) := by
  refine cal_mk T (d := d_law_stays) (ps := ["_law_elder", "_law_told_here"]) 63 55 rfl rfl rfl rfl rfl fun f fd F => ⟨fng_of F sc__law_stays (fun vs H Q h => ?_) (fun cdv A outer s H vs Q hr hg h => ?_), F.bindsN fun _ _ _ _ _ _ us hl => match us, hl with | [_, _], _ => rfl⟩
  · obtain ⟨ea, ta, n, a0, a1, h0, he, ht, hs, hb, hn, q⟩ := h
    first | rfl | (subst h0; rfl)
  · have hu := hu_of hr
    have nd := sc__law_stays.nd
    obtain ⟨ea, ta, n, a0, a1, h0, he, ht, hs, hb, hn, q⟩ := h
    try subst h0
    refine ⟨_, (pss_one (ps_ret (pe_callB (cr_allk (K := W.K) rfl rfl) rfl T.free_all boot_all (pa_cons (pe_lc (own := [("_law_me", 2)]) rfl nd (pi_range1 rfl T.free_range (pa_cons (pe_callB (cr_lenk (K := W.K) rfl) rfl T.free_len boot_len (pa_cons (pv 1) pa_nil)) pa_nil)) (blkOk_by (own := [("_law_me", 2)]) (N := N__law_stays) (sc := defScope s_law_stays) (by decide +kernel)) (fun _ _ _ _ _ => (pg_name (i := 2) nd rfl (Or.inl rfl))) (fun _ _ _ _ _ => pts_nil) (fun _ _ _ _ _ => (pe_or (pe_cmpR op_isNq (pe_ixtk (K := W.K) rfl (pv 0) (pv 2) (fun _ _ => rfl)) pe_non (nomark _)) (pe_one (pe_cmpR op_eq (pe_callB (cr_reprk (K := W.K) rfl hg hr) rfl T.free_repr boot_repr (pa_cons (pe_ixtk (K := W.K) rfl (pv 0) (pv 2) (fun _ _ => rfl)) pa_nil)) (pe_callB (cr_reprk (K := W.K) rfl hg hr) rfl T.free_repr boot_repr (pa_cons (pe_ixtk (K := W.K) rfl (pv 1) (pv 2) (fun _ _ => rfl)) pa_nil)) (nomark _)))))) pa_nil)))), ?_⟩
    obtain ⟨_, es, x1, x2, x3, x4⟩ := he
    cases x1
    obtain ⟨_, ws, y1, y2, y3, y4⟩ := ht
    cases y1
    refine s_retE (ev_allT (n := n) (ep_lcR (fun _ => MP.eq (.bl true)) (ea_cons (by rw [← y3]; exact ev_lenT (ev_var rfl) (st_of y2)) ea_nil) (by omega) (fun _ => rfl) fun i hi => ?_)) q
    have hes : es[i]? = some (es[i]'(by omega)) := by simp [x3, hi]
    have hws : ws[i]? = some (ws[i]'(by omega)) := by simp [y3, hi]
    have ha : es[i]'(by omega) = iV (a0 i) := x4 i _ hes
    have hb2 : ws[i]'(by omega) = iV (a1 i) := y4 i _ hws
    rw [ha] at hes
    rw [hb2] at hws
    have ev0 : ∀ {σ : L2.St}, σ[0]? = some (some (.ref ea)) → σ[2]? = some (some (.int (i : Nat))) → Ev (tOp (rIxT W.K) (tVar 0) (tVar 2)) σ H (iV (a0 i)) := fun h1 h2 => ev_op (ev_var h1) (ev_var h2) (rv_ixT (st_of x2) (atI_nat hes))
    have ev1 : ∀ {σ : L2.St}, σ[1]? = some (some (.ref ta)) → σ[2]? = some (some (.int (i : Nat))) → Ev (tOp (rIxT W.K) (tVar 1) (tVar 2)) σ H (iV (a1 i)) := fun h1 h2 => ev_op (ev_var h1) (ev_var h2) (rv_ixT (st_of y2) (atI_nat hws))
    cases hz : a0 i with
    | none =>
      rw [hz] at ev0
      exact ep_ev (ev_is (ev_orV (a := true) (b := true) (ev_op (ev0 rfl rfl) ev_c rv_isN) fun h => by cases h) rfl)
    | some j =>
      have h1 := hs i hi (by rw [hz]; exact fun z => nomatch z)
      rw [h1] at ev1
      rw [hz] at ev0 ev1
      have sj : KnM.Showy (.int j) := (sw_small (hb i j hi hz)).y (by decide) (by decide)
      refine ep_ev (ev_is (ev_orV (a := false) (b := true) (ev_is (ev_op (ev0 rfl rfl) ev_c rv_isN) rfl) fun _ => ev_is (ev_op (ev_repr (ev0 rfl rfl) (.int j) sj) (ev_repr (ev1 rfl rfl) (.int j) sj) (rv_eq rfl)) (congrArg V.bl (decide_eq_true rfl))) rfl)
/-- a + b, both new lists -/
theorem el_cat {σ : L2.St} {H : Hp} {ta tb : TE} {xs ys : List V} (ha : EvL ta σ H xs) (hb : EvL tb σ H ys) (hz : xs.length + ys.length ≤ 100000) : EvL (tOp rCat ta tb) σ H (xs ++ ys) := fun H1 e Q q =>
  ha H1 e _ fun a H2 h0 e2 h2 => hb H2 (e.trans e2) _ fun b H3 k0 e3 h3 => ⟨a, b, xs, ys, rfl, rfl, e3 _ _ h2, h3, sz_of hz, fun p hp => q p _ (fresh_back (e2.trans e3) hp) ((e2.trans e3).trans (Ex.new hp)) upd_same⟩
def sp__law_filled (W : Wd) : GS := fun vs H Q => ∃ (Hs : Hp) (p ma : Addr) (n rounds : Nat) (ms : Nat → List (Option Nat)), vs = [.ref p, .ref ma, .int rounds] ∧ PotAt Hs H p ∧ (MissP n ms).p (.ref ma) H ∧ (∀ me, me < n → ∀ m ∈ ms me, ∀ o, m = some o → o < n ∧ o ≠ me) ∧ n ≤ 5 ∧ rounds ≤ 12 ∧
  ∀ pa (pt : List (List (Option Nat))) H', Fr (IsA p) H H' → PotAt Hs H' p → PatAt H' pa pt → PatOk n pt → pt.length = rounds → (∀ me r m, me < n → r < rounds → (ms me)[r]? = some m → patF pt r me = m) → Q (.ref pa) H'
theorem fr_exA {H H1 : Hp} {p : Addr} (e : Ex H H1) : Fr (IsA p) H H1 := Fr.ex e
theorem PotAt.mutl {Hs H H' : Hp} {p l : Addr} {o : HO} (h : PotAt Hs H p) (P : PotAt Hs H' p) (hl : H l = none) : PotAt Hs (upd H' l o) p := by
  obtain ⟨ca, ms, i1, x1, y1, z1, g1, g2⟩ := P.at_
  exact ⟨fun a o h2 => (upd_ne fun z => by rw [z] at h2; rw [h.ex _ _ h2] at hl; cases hl).trans (P.ex a o h2), P.fr, ca, ms, i1, x1, y1, z1, (upd_ne (h.ne hl).symm).trans g1, g2⟩
abbrev N__law_filled : List Str := ["_law_pot_here", "_law_missed", "_law_rounds", "_law_many", "_law_found", "_law_number", "_law_row", "_law_me", "_law_others", "_law_other"]
theorem sc__law_filled : FnScope N__law_filled ["_law_pot_here", "_law_missed", "_law_rounds"] (defScope s_law_filled) := ⟨rfl, rfl, rfl, by decide +kernel, rfl, by decide +kernel, by decide +kernel⟩
theorem C__law_filled {W : Wd} (T : TopW W) : Cal W "_law_filled" 3 (sp__law_filled W) := by
  have C__law_any := C__law_any T
  refine cal_mk T (d := d_law_filled) (ps := ["_law_pot_here", "_law_missed", "_law_rounds"]) 60 52 rfl rfl rfl rfl rfl fun f fd F => ⟨fng_of F sc__law_filled (fun vs H Q h => ?_) (fun cdv A outer s H vs Q hr hg h => ?_), F.bindsN fun _ _ _ _ _ _ us hl => match us, hl with | [_, _, _], _ => rfl⟩
  · obtain ⟨Hs, p, ma, n, rounds, ms, h0, P, hm, hmv, hn, hrr, q⟩ := h
    first | rfl | (subst h0; rfl)
  · have hu := hu_of hr
    have nd := sc__law_filled.nd
    obtain ⟨Hs, p, ma, n, rounds, ms, h0, P, hm, hmv, hn, hrr, q⟩ := h
    try subst h0
    refine ⟨_, (pss_cons (ps_par (i := 3) (j := 4) rfl nd rfl rfl (by decide) rfl rfl (pa_cons (pe_callB (cr_lenk (K := W.K) rfl) rfl T.free_len boot_len (pa_cons (pv 1) pa_nil)) (pa_cons (pe_lst pa_nil) pa_nil)) rfl) (pss_cons (ps_for PassesOwn.never rfl (pi_range1 rfl T.free_range (pa_cons (pv 2) pa_nil)) (pg_name (i := 5) nd rfl (Or.inl rfl)) (pss_cons (ps_set (i := 6) nd rfl (Or.inl rfl) (pe_lst pa_nil)) (pss_cons (ps_for PassesOwn.never rfl (pi_range1 rfl T.free_range (pa_cons (pv 3) pa_nil)) (pg_name (i := 7) nd rfl (Or.inr rfl)) (pss_cons (ps_set (i := 8) nd rfl (Or.inl rfl) (pe_op op_cat (pe_lst (pa_cons pe_non (pa_cons pe_non pa_nil))) (pe_lc (own := [("_law_other", 9)]) rfl nd (pi_range1 rfl T.free_range (pa_cons (pv 3) pa_nil)) (blkOk_by (own := [("_law_other", 9)]) (N := N__law_filled) (sc := defScope s_law_filled) (by decide +kernel)) (fun _ _ _ _ _ => (pg_name (i := 9) nd rfl (Or.inl rfl))) (fun _ _ _ _ _ => (pts_one (pt_cmpR op_ne (pv 9) (pv 7) (nomark _)))) (fun _ _ _ _ _ => (pv 9))))) (pss_one (ps_expr (pe_bm PySem.F.plainAttrs_list PySem.F.slot_list_append PySem.F.type_list_append mt_append (pv 6) (pa_cons (pe_ifExp (pt_cmpR op_lt (pv 5) (pe_callB (cr_lenk (K := W.K) rfl) rfl T.free_len boot_len (pa_cons (pe_ixtk (K := W.K) rfl (pv 1) (pv 7) (fun _ _ => rfl)) pa_nil)) (nomark _)) (pe_ixtk (K := W.K) rfl (pe_ixtk (K := W.K) rfl (pv 1) (pv 7) (fun _ _ => rfl)) (pv 5) (fun _ _ => rfl)) (pe_cal C__law_any rfl hr (by decide) hg rfl (pa_cons (pv 0) (pa_cons (pv 8) pa_nil)))) pa_nil)))))) (pss_one (ps_expr (pe_bm PySem.F.plainAttrs_list PySem.F.slot_list_append PySem.F.type_list_append mt_append (pv 4) (pa_cons (pe_callTy (cr_tupk (K := W.K) rfl) rfl T.free_tuple boot_tuple (pa_cons (pv 6) pa_nil)) pa_nil))))))) (pss_one (ps_ret (pe_callTy (cr_tupk (K := W.K) rfl) rfl T.free_tuple boot_tuple (pa_cons (pv 4) pa_nil)))))), ?_⟩
    obtain ⟨_, ws, y1, y2, y3, y4⟩ := hm
    cases y1
    have nma : ma ≠ p := fun z => P.noT _ _ y2 z
    refine (show Ev (tCB (rLenS W.K) (tCons (tVar 1) tNil)) (L2.start N__law_filled [.ref p, .ref ma, .int rounds]) H (.int (n : Nat)) from by rw [← y3]; exact ev_lenT (ev_var rfl) (st_of y2)) H (Ex.refl H) _ fun H1 e1 => ⟨Nat.zero_le _, fun f hf0' => ⟨_, _, rfl, ?_⟩⟩
    have exf := Ex.new (o := .lst []) hf0'
    have hf1 : upd H1 f (.lst []) f = some (.lst []) := upd_same
    have hf0 : H f = none := fresh_back e1 hf0'
    have e12 := e1.trans exf
    generalize upd H1 f (.lst []) = H2 at hf1 e12
    have P2 := P.exx e12
    have nfp : f ≠ p := P.ne hf0
    refine q_forR1 (n := (rounds : Nat)) (ea_cons (ev_var rfl) ea_nil) ⟨by omega, by omega⟩
      (fun i σ' H' => Fr (IsA p) H H' ∧ PotAt Hs H' p ∧ ∃ (acc : List V) (rows : List (List (Option Nat))) (y5 y6 y7 y8 y9 : Option V), H' f = some (.lst acc) ∧ acc.length = i ∧ rows.length = i ∧ (∀ (j : Nat) (v : V) (row : List (Option Nat)), acc[j]? = some v → rows[j]? = some row → (MP.row row).p v H') ∧ (∀ row ∈ rows, RowOk n row) ∧ (∀ (j me : Nat) (row : List (Option Nat)) (m : Option Nat), rows[j]? = some row → me < n → (ms me)[j]? = some m → row.getD me none = m) ∧
        σ' = [some (.ref p), some (.ref ma), some (.int rounds), some (.int n), some (.ref f), y5, y6, y7, y8, y9])
      (fun H3 e3 => ⟨Fr.ex (e12.trans e3), P2.exx e3, [], [], none, none, none, none, none, e3 _ _ hf1, rfl, rfl, fun j v row z => by simp at z, fun row z => by simp at z, fun j me row m z => by simp at z, rfl⟩) ?_ ?_
    · rintro i σ' H3 hi ⟨f3, P3, acc, rows, _, _, _, _, _, hacc, hlen, hrl, hall, hrok, hrm, rfl⟩
      have hi : i < rounds := by omega
      refine q_asgL (el_lst ea_nil (by simp)) fun l H4 hl0 e4 hl => ?_
      have nlf : l ≠ f := (ne_of_none hacc hl0).symm
      have nlp : l ≠ p := P3.ne hl0
      have hl0' : H l = none := f3.back hl0 nlp
      -- a row
      refine q_forR1 (n := (n : Nat)) (ea_cons (ev_var rfl) ea_nil) ⟨by omega, by omega⟩
        (fun j σ' H' => Fr (IsA p) H3 H' ∧ PotAt Hs H' p ∧ ∃ (r : List (Option Nat)) (y7 y8 y9 : Option V), H' l = some (.lst (r.map oV)) ∧ r.length = j ∧ (∀ (me : Nat) (m : Option Nat), r[me]? = some m → (∀ o, m = some o → o < n ∧ o ≠ me) ∧ ∀ m2, (ms me)[i]? = some m2 → m = m2) ∧
          σ' = [some (.ref p), some (.ref ma), some (.int rounds), some (.int n), some (.ref f), some (.int (i : Nat)), some (.ref l), y7, y8, y9])
        (fun H5 e5 => ⟨Fr.ex (e4.trans e5), P3.exx (e4.trans e5), [], _, _, _, e5 _ _ hl, rfl, fun me m z => by simp at z, rfl⟩) ?_ ?_
      · rintro me σ' H5 hme ⟨f5, P5, r, _, _, z9, hr5, hrl5, hrv, rfl⟩
        have hme : me < n := by omega
        have f05 := f3.trans f5
        have hma5 := f05 _ _ y2 nma
        have hws : ws[me]? = some (ws[me]'(by omega)) := by simp [y3, hme]
        obtain ⟨b, hb, hbe⟩ := y4 me _ hws
        rw [hb] at hws
        have nbp : b ≠ p := fun z => P.noT _ _ hbe z
        have hbe5 := f05 _ _ hbe nbp
        refine q_asgL (xs := [.non, .non] ++ given n (fun o => decide (o ≠ me)) fun o => .int (o : Nat)) (el_cat (el_lst (vs := [.non, .non]) (by walk_at "ev") (by simp)) (el_lcR1 (n := (n : Nat)) (fun o => decide (o ≠ me)) (fun o => .int (o : Nat)) (ea_cons (ev_var rfl) ea_nil) ⟨by omega, by omega⟩ (fun _ => rfl) (fun o H6 e6 ho => et_test (ev_is (ev_op (ev_var rfl) (ev_var rfl) (rv_ne rfl)) (by rw [nat_ne_dec]))) fun o H6 e6 ho _ => ev_var rfl) (Nat.le_trans (Nat.add_le_add_left (given_len _ _ _) 2) (by omega))) fun ol H6 hol0 e6 hol => ?_
        have hgv : ∀ v ∈ [V.non, V.non] ++ given n (fun o => decide (o ≠ me)) fun o => V.int (o : Nat), ∃ m : Option Nat, v = oV m ∧ ∀ o, m = some o → o < n ∧ o ≠ me := fun v hv => by
          rcases List.mem_append.1 hv with z | z
          · simp at z
            exact ⟨none, z, fun o h => nomatch h⟩
          · unfold given at z
            obtain ⟨o, ho, rfl⟩ := List.mem_map.1 z
            obtain ⟨h1, h2⟩ := List.mem_filter.1 ho
            refine ⟨some o, rfl, fun o2 e => ?_⟩
            cases e
            exact ⟨List.mem_range.1 h1, of_decide_eq_true h2⟩
        have hgz := given_len n (fun o => decide (o ≠ me)) (fun o => V.int (o : Nat))
        have hg0 : 0 < ([V.non, V.non] ++ given n (fun o => decide (o ≠ me)) fun o => V.int (o : Nat)).length := by simp
        have hgl : ([V.non, V.non] ++ given n (fun o => decide (o ≠ me)) fun o => V.int (o : Nat)).length ≤ 100 := by
          rw [List.length_append]
          show 2 + _ ≤ 100
          omega
        generalize [V.non, V.non] ++ given n (fun o => decide (o ≠ me)) (fun o => V.int (o : Nat)) = ov at hol hgv hg0 hgl
        have P6 := P5.exx e6
        have nolp : ol ≠ p := P5.ne hol0
        have hr6 := e6 _ _ hr5
        have f36 : Fr (IsA p) H3 H6 := f5.trans (Fr.ex e6)
        have finish : ∀ (m : Option Nat) (H7 : Hp), Fr (IsA p) H6 H7 → PotAt Hs H7 p → ((∀ o, m = some o → o < n ∧ o ≠ me) ∧ ∀ m2, (ms me)[i]? = some m2 → m = m2) → ∃ l2 xs y, V.ref l = .ref l2 ∧ [oV m] = [y] ∧ H7 l2 = some (.lst xs) ∧ xs.length < sizeLine ∧ (Fr (IsA p) H3 (upd H7 l2 (.lst (xs ++ [y]))) ∧ PotAt Hs (upd H7 l2 (.lst (xs ++ [y]))) p ∧ ∃ (r : List (Option Nat)) (y7 y8 y9 : Option V), (upd H7 l2 (.lst (xs ++ [y]))) l = some (.lst (r.map oV)) ∧ r.length = me + 1 ∧ (∀ (me : Nat) (m : Option Nat), r[me]? = some m → (∀ o, m = some o → o < n ∧ o ≠ me) ∧ ∀ m2, (ms me)[i]? = some m2 → m = m2) ∧
            [some (V.ref p), some (.ref ma), some (.int rounds), some (.int n), some (.ref f), some (.int (i : Nat)), some (.ref l), some (.int (me : Nat)), some (.ref ol), z9] = [some (V.ref p), some (.ref ma), some (.int rounds), some (.int n), some (.ref f), some (.int (i : Nat)), some (.ref l), y7, y8, y9]) := fun m H7 f7 P7 hv => by
          refine ⟨l, r.map oV, oV m, rfl, rfl, f7 _ _ hr6 nlp, sz_lt (by rw [List.length_map]; omega), (f36.trans f7).mut hl0, P3.mutl P7 hl0, r ++ [m], _, _, _, ?_, by simp [hrl5], fun j m2 z => ?_, rfl⟩
          · rw [upd_same, List.map_append]
            rfl
          · by_cases hj : j < r.length
            · rw [List.getElem?_append_left hj] at z
              exact hrv j m2 z
            · have hj2 : j = me := by
                have := (List.getElem?_eq_some_iff.1 z).1
                simp at this
                omega
              subst hj2
              have z2 : (r ++ [m])[r.length]? = some m2 := by rw [hrl5]; exact z
              simp at z2
              subst z2
              exact hv
        have hlen6 : ((ms me).map oV).length = (ms me).length := List.length_map _
        refine ⟨_, rfl, .inl ⟨rfl, _, sq_of hr6⟩, ?_⟩
        refine (show EvT (tTest (tOp (rI0 fun i j => V.bl (decide (i < j))) (tVar 5) (tCB (rLenS W.K) (tCons (tOp (rIxT W.K) (tVar 1) (tVar 7)) tNil)))) [some (V.ref p), some (.ref ma), some (.int rounds), some (.int n), some (.ref f), some (.int (i : Nat)), some (.ref l), some (.int (me : Nat)), some (.ref ol), z9] H6 (decide (i < (ms me).length)) from
          et_test (ev_is (ev_op (ev_var rfl) (ev_is (ev_lenT (ev_op (ev_var rfl) (ev_var rfl) (rv_ixT (st_of (e6 _ _ hma5)) (atI_nat hws))) (st_of (e6 _ _ hbe5))) (by rw [hlen6])) rv_I0) (congrArg V.bl nat_lt_dec))) H6 (Ex.refl _) _ fun H7 e7 => ?_
        refine ite2 (fun h => ?_) fun h => ?_
        · have hlt := of_decide_eq_true h
          have hmi : (ms me)[i]? = some (ms me)[i] := by simp [hlt]
          have hmo : ((ms me).map oV)[i]? = some (oV (ms me)[i]) := by rw [List.getElem?_map, hmi]; rfl
          refine (show Ev (tOp (rIxT W.K) (tOp (rIxT W.K) (tVar 1) (tVar 7)) (tVar 5)) [some (V.ref p), some (.ref ma), some (.int rounds), some (.int n), some (.ref f), some (.int (i : Nat)), some (.ref l), some (.int (me : Nat)), some (.ref ol), z9] H7 (oV (ms me)[i]) from
            ev_op (ev_op (ev_var rfl) (ev_var rfl) (rv_ixT (st_of ((e6.trans e7) _ _ hma5)) (atI_nat hws))) (ev_var rfl) (rv_ixT (st_of ((e6.trans e7) _ _ hbe5)) (atI_nat hmo))) H7 (Ex.refl _) _ fun H8 e8 => ?_
          exact finish _ H8 (Fr.ex (e7.trans e8)) (P6.exx (e7.trans e8)) ⟨hmv me hme _ (List.getElem_mem hlt), fun m2 h2 => Option.some.inj (hmi.symm.trans h2)⟩
        · have hge : ¬ i < (ms me).length := fun z => h (decide_eq_true z)
          refine t_anyL (i := 0) (j := 8) rfl rfl (P6.exx e7) (e7 _ _ hol) nolp hg0 (by omega) fun v H8 f8 P8 hv => ?_
          obtain ⟨m, rfl, hmo⟩ := hgv v hv
          exact finish m H8 ((Fr.ex e7).trans f8) P8 ⟨hmo, fun m2 h2 => absurd (List.getElem?_eq_some_iff.1 h2).1 hge⟩
      · rintro σ' H5 ⟨f5, P5, r, z7, z8, z9, hr5, hrl5, hrv, rfl⟩
        have hrl5 : r.length = n := by simpa using hrl5
        have hf5 := f5 _ _ hacc nfp
        refine s_appU hf5 (ev_var rfl) (eu_tupL (ev_var rfl) (sq_of hr5)) (by omega) fun t H6 ht0 e6 ht => ?_
        have hf6 := e6 _ _ hf5
        have frf : FrT H6 (upd H6 f (.lst (acc ++ [.ref t]))) := FrT.new fun xs z => by rw [hf6] at z; cases z
        have fr35 : FrT H3 H5 := f5.frT P3.noT
        refine ⟨((f3.trans f5).trans (Fr.ex e6)).mut hf0, P.mutl (P5.exx e6) hf0, acc ++ [.ref t], rows ++ [r], _, _, _, _, _, upd_same, by simp [hlen], by simp [hrl], fun j v row x y => ?_, fun row z => ?_, fun j me row m x hme y => ?_, rfl⟩
        · by_cases hj : j < acc.length
          · rw [List.getElem?_append_left hj] at x
            rw [List.getElem?_append_left (by omega)] at y
            exact (MP.row row).up ((fr35.trans (Ex.frT e6)).trans frf) (hall j v row x y)
          · have hj2 : j = acc.length := by
              have := (List.getElem?_eq_some_iff.1 x).1
              simp at this
              omega
            subst hj2
            simp at x
            rw [hlen, ← hrl] at y
            simp at y
            subst x y
            exact ⟨t, rfl, frf _ _ ht⟩
        · rcases List.mem_append.1 z with z | z
          · exact hrok row z
          · simp at z
            subst z
            exact ⟨hrl5, fun me m h => (hrv me m h).1⟩
        · by_cases hj : j < rows.length
          · rw [List.getElem?_append_left hj] at x
            exact hrm j me row m x hme y
          · have hj2 : j = i := by
              have := (List.getElem?_eq_some_iff.1 x).1
              simp at this
              omega
            subst hj2
            have x2 : (rows ++ [r])[rows.length]? = some row := by rw [hrl]; exact x
            simp at x2
            subst x2
            have hmr : r[me]? = some (r[me]'(by omega)) := by simp [hrl5, hme]
            rw [List.getD_eq_getElem?_getD, hmr]
            exact (hrv me _ hmr).2 m y
    · rintro σ' H3 ⟨f3, P3, acc, rows, _, _, _, _, _, hacc, hlen, hrl, hall, hrok, hrm, rfl⟩
      have hlen : acc.length = rounds := by simpa using hlen
      have hrl : rows.length = rounds := by simpa using hrl
      refine s_retU (eu_tupL (ev_var rfl) (sq_of hacc)) fun pa H4 hp0 e4 h4 => ?_
      refine q pa rows H4 (f3.trans (Fr.ex e4)) (P3.exx e4) ⟨acc, h4, by omega, fun j v row x y => (MP.row row).up (Ex.frT e4) (hall j v row x y)⟩ hrok hrl fun me r m hme hr x => ?_
      have hrow : rows[r]? = some (rows[r]'(by omega)) := by simp [hrl, hr]
      unfold patF
      rw [List.getD_eq_getElem?_getD (l := rows), hrow]
      exact hrm r me _ m hrow hme x
end Kn

set_option Elab.async false
set_option linter.all false
set_option maxRecDepth 100000
set_option maxHeartbeats 4000000
/-! whether a net fits a pattern -/
namespace Kn
open PySem PySem.Spec PyProof.Rows L2 Evl
local macro_rules | `(tactic| walk_at "ev") => `(tactic| first
  | ((with_reducible apply ev_var); exact rfl)
  | with_reducible exact ev_c
  | with_reducible exact ea_nil
  | ((with_reducible apply ea_cons) <;> walk_at "ev")
  | ((with_reducible apply ev_int); walk_at "ev")
  | ((with_reducible apply ev_op) <;> walk_at "ev")
  | ((with_reducible apply ev_un) <;> walk_at "ev")
  | with_reducible exact rv_I0
  | with_reducible exact rv_isN
  | ((with_reducible apply rv_eq); exact rfl)
  | ((with_reducible apply rv_ne); exact rfl)
  | with_reducible exact ru_neg
  | ((with_reducible apply rv_I); first | exact Or.inl (by decide) | decide | assumption | skip)
  | ((with_reducible apply rv_ixL) <;> first | assumption | exact rfl | skip)
  | ((with_reducible apply rv_ixT) <;> first | assumption | exact rfl | skip)
  | ((with_reducible apply ev_fld) <;> first | walk_at "ev" | assumption | exact rfl | skip)
  | ((with_reducible apply ev_len) <;> first | walk_at "ev" | assumption | skip)
  | ((with_reducible apply ev_lenT) <;> first | walk_at "ev" | assumption | skip)
  | exact rv_eq rfl
  | exact rv_ne rfl
  | assumption
  | skip)
section
variable {W : Wd} {K : PySem.W.Frag} {σ : L2.St} {H : Hp} {ta tb te : TE} {tu tz : TS} {D : Ends} {P P1 P2 R : VP} {g st : Addr}
theorem ep_mtd0 {m : Str} {sp : GS} (T : TopW W) (h : Ev ta σ H (.ref g)) (ni : NetI W H g st) (hm : ¬ m = "kept_state") (k : ∀ H1, Ex H H1 → ∀ Q, Ret P H1 Q → sp [.ref g] H1 Q) : EvP (tMtd (He.ga W.K "Net") m sp ta tNil) σ H P := fun H1 e Q q =>
  h H1 e _ fun H2 e2 => by
    obtain ⟨dx, hi⟩ := ni
    exact ⟨g, dx, _, rfl, (e.trans e2) _ _ hi, lk_miss (fs := []) hm rfl, k H2 (e.trans e2) Q fun v H3 e3 p => q v H3 (e2.trans e3) p⟩
theorem ep_bind1 {sp : GS} (h : EvP te σ H P) (k : ∀ v H1, Ex H H1 → P v H1 → ∀ Q, Ret R H1 Q → sp [v] H1 Q) : EvP (tCal sp (tCons te tNil)) σ H R := fun H1 e Q q =>
  h H1 e _ fun v H2 e2 p => k v H2 (e.trans e2) p Q fun w H3 e3 r => q w H3 (e2.trans e3) r
theorem q_asg2P {i j : Nat} (h1 : EvP ta σ H P1) (u1 : ∀ v H H', Ex H H' → P1 v H → P1 v H') (h2 : EvP tb σ H P2) (u2 : ∀ v H H', Ex H H' → P2 v H → P2 v H') (k : ∀ x y H1, Ex H H1 → P1 x H1 → P2 y H1 → tz D ((σ.set i (some x)).set j (some y)) H1) :
    tSeq (tAsg (tTup (tCons ta (tCons tb tNil))) (gTup K 2 (gCons (gName i) (gCons (gName j) gNil)))) tz D σ H :=
  h1 H (Ex.refl H) _ fun x H1 e1 p1 => h2 H1 e1 _ fun y H2 e2 p2 => ⟨by show 2 ≤ sizeLine; decide, fun t ht => ⟨t, _, rfl, st_of upd_same, rfl, _, _, rfl, _, _, rfl, rfl, k x y _ ((e1.trans e2).trans (Ex.new ht)) (u1 _ _ _ (e2.trans (Ex.new ht)) p1) (u2 _ _ _ (Ex.new ht) p2)⟩⟩
theorem ev_reprP {d : PyData} (h : EvP te σ H (fun v H => IsD H v d)) (hs : KnM.Showy d) : Ev (tCB (KnM.rRepr K) (tCons te tNil)) σ H (.str d.shown) := fun H1 e Q q => h H1 e _ fun v H2 e2 p => ⟨v, d, rfl, p.dp, hs, q H2 e2⟩
theorem q_forLP {G : Addr → List V → Hp → Prop} {tg : TG} (h : EvP te σ H (fun v H => ∃ a xs, v = .ref a ∧ H a = some (.lst xs) ∧ G a xs H)) (Pv : Addr → List V → Nat → L2.St → Hp → Prop) (h0 : ∀ a xs H1, Ex H H1 → H1 a = some (.lst xs) → G a xs H1 → Pv a xs 0 σ H1)
    (hG : ∀ a xs i σ' H', Pv a xs i σ' H' → H' a = some (.lst xs)) (hs : ∀ a xs i x σ' H', xs[i]? = some x → Pv a xs i σ' H' → tg x σ' H' fun σ2 H2 => tu { D with nx := Pv a xs (i + 1), ct := Pv a xs (i + 1), bk := tz D } σ2 H2) (hd : ∀ a xs σ' H', Pv a xs xs.length σ' H' → tz D σ' H') :
    tSeq (tFor (iList K te) tg tu) tz D σ H :=
  h H (Ex.refl H) _ fun v H1 e ⟨a, xs, h1, h2, h3⟩ => ⟨a, h1, ⟨xs, sq_of h2⟩, for_it (D := { D with nx := tz D }) (walk_list (K := K) (a := a) (xs := xs)) (Pv a xs) (h0 a xs H1 e h2 h3) (fun i σ' H' _ p => sq_of (hG a xs i σ' H' p)) (fun i x σ' H2 H3 hi p y => by
    obtain ⟨rfl, y2⟩ := y
    exact hs a xs i x σ' H3 y2 p) (hd a xs)⟩
end
theorem mem_showy {s : Sh} {r : Nat} {d : PyData} (hk : s.kind ≤ 2) (hr : r ≤ 12) (h : MemOk s r d) : KnM.Showy d := by
  have : s.kind = 0 ∨ s.kind = 1 ∨ s.kind = 2 := by omega
  rcases this with k | k | k
  · obtain ⟨i, rfl, h0, h1⟩ := h.k0 k
    exact (sw_small (by omega)).y (by decide) (by decide)
  · have w := (h.k1 k).2
    exact w.y (by omega) (Nat.le_trans (show MemB r ≤ 7000000 by unfold MemB; split <;> decide) (by decide))
  · rcases h.k2 k with rfl | ⟨i, rfl, h0, h1⟩
    · exact sw_none.y (by decide) (by decide)
    · exact (sw_small (by omega)).y (by decide) (by decide)
theorem ans_small {s : Sh} {me r : Nat} {d : PyData} {i : Int} (hk : s.kind ≤ 2) (hr : s.kind = 1 → r ≤ 2) (hm : me < 5) (h : MemOk s r d) (ha : ansD s me d = some i) : i.natAbs < 2 ^ 64 := by
  obtain ⟨a, b⟩ := tot_bound hk (by by_cases k : s.kind = 1; exact .inl (hr k); exact .inr k) h
  unfold ansD at ha
  split at ha
  · cases ha
  · cases ha
    omega
theorem sw_iD {a : Option Int} (h : ∀ i, a = some i → i.natAbs < 2 ^ 64) : Sw 2000 0 (iD a) := by
  cases a with
  | none => exact sw_none
  | some i => exact sw_small (h i rfl)
theorem runs_up {s : Sh} {ins : List Int} {p : List (List (Option Nat))} {f : Addr} {H H' : Hp} (e : Ex H H') (h : RunsAt H f s ins p) : RunsAt H' f s ins p := by
  obtain ⟨acc, h1, h2, h3⟩ := h
  refine ⟨acc, e _ _ h1, h2, fun r v z => ?_⟩
  obtain ⟨a, vs, a1, a2, a3, a4⟩ := h3 r v z
  exact ⟨a, vs, a1, e _ _ a2, a3, fun i v q => (MP.isD _).up (Ex.frT e) (a4 i v q)⟩
def sp__law_fits (W : Wd) : GS := fun vs H Q => ∃ (sh ia fo g pa st : Addr) (c : Re) (s : Sh) (ins : List Int) (S : NS) (p : List (List (Option Nat))), vs = [.ref sh, .ref ia, .ref fo, .ref g, .ref pa] ∧ RunO H s sh ia pa ins p ∧ NetI W H g st ∧ StOk W H st c fo ia s ins ∧ NetAt H ins.length c S ∧ InvS s ins.length ins S ∧ Tells S ins.length (patF p) ∧ Ret (MP.eq (.bl true)).p H Q
abbrev N__law_fits : List Str := ["_law_shape_here", "_law_inputs_here", "_law_folk_here", "_law_given", "_law_pattern", "_law_memories", "_law_told_here", "_law_last", "_law_at", "_law_me", "_law_to", "_law_by", "_law_number", "_law_memory"]
theorem sc__law_fits : FnScope N__law_fits ["_law_shape_here", "_law_inputs_here", "_law_folk_here", "_law_given", "_law_pattern"] (defScope s_law_fits) := ⟨rfl, rfl, rfl, by decide +kernel, rfl, by decide +kernel, by decide +kernel⟩
theorem C__law_fits {W : Wd} (T : TopW W) : Cal W "_law_fits" 9 (sp__law_fits W) := by
  have C_Net_answers := C_Net_answers T
  have C_Net_at := C_Net_at T
  have C_Net_bag := C_Net_bag T
  have C__law_answer := C__law_answer T
  have C__law_counted := C__law_counted T
  have C__law_runs := C__law_runs T
  have C_answers := C_answers T
  refine cal_mk T (d := d_law_fits) (ps := ["_law_shape_here", "_law_inputs_here", "_law_folk_here", "_law_given", "_law_pattern"]) 61 53 rfl rfl rfl rfl rfl fun f fd F => ⟨fng_of F sc__law_fits (fun vs H Q h => ?_) (fun cdv A outer s H vs Q hr hg h => ?_), F.bindsN fun _ _ _ _ _ _ us hl => match us, hl with | [_, _, _, _, _], _ => rfl⟩
  · obtain ⟨sh, ia, fo, g, pa, st, c, s, ins, S, p, h0, ro, ni, so, N, I, tl, q⟩ := h
    first | rfl | (subst h0; rfl)
  · have hu := hu_of hr
    have nd := sc__law_fits.nd
    obtain ⟨sh, ia, fo, g, pa, st, c, s, ins, S, p, h0, ro, ni, so, N, I, tl, q⟩ := h
    try subst h0
    refine ⟨_, (pss_cons (ps_asg (pe_tup (pa_cons (pe_cal C__law_runs rfl hr (by decide) hg rfl (pa_cons (pv 0) (pa_cons (pv 1) (pa_cons (pv 4) pa_nil)))) (pa_cons (pe_mtd0 (pv 3) T.cls_Net C_Net_answers rfl hr (by decide) hg) pa_nil))) (pg_tupk (K := W.K) (n := 2) rfl rfl (pgs_cons (pg_name (i := 5) nd rfl (Or.inr rfl)) (pgs_cons (pg_name (i := 6) nd rfl (Or.inl rfl)) pgs_nil)) rfl)) (pss_cons (ps_setLc (i := 7) (own := [("_law_me", 9)]) rfl nd rfl rfl (sw_true rfl rfl rfl (by decide +kernel)) (pi_range1 rfl T.free_range (pa_cons (pe_callB (cr_lenk (K := W.K) rfl) rfl T.free_len boot_len (pa_cons (pv 1) pa_nil)) pa_nil)) (blkOk_by (own := [("_law_me", 9)]) (N := N__law_fits) (sc := defScope s_law_fits) (by decide +kernel)) (fun _ _ _ _ _ => (pg_name (i := 9) nd rfl (Or.inl rfl))) (fun _ _ _ _ _ => pts_nil) (fun _ _ _ _ _ => (pe_cal C__law_counted rfl hr (by decide) hg rfl (pa_cons (pe_cal C__law_answer rfl hr (by decide) hg rfl (pa_cons (pv 0) (pa_cons (pv 9) (pa_cons (pe_ixlk (K := W.K) rfl (pe_ixlk (K := W.K) rfl (pv 5) (pe_un un_neg pe_int) (fun _ _ => rfl)) (pv 9) (fun _ _ => rfl)) pa_nil)))) pa_nil)))) (pss_cons (ps_set (i := 8) nd rfl (Or.inl rfl) (pe_mtd0 (pv 3) T.cls_Net C_Net_at rfl hr (by decide) hg)) (pss_cons (ps_for PassesOwn.never rfl (pi_range1 rfl T.free_range (pa_cons (pe_callB (cr_lenk (K := W.K) rfl) rfl T.free_len boot_len (pa_cons (pv 1) pa_nil)) pa_nil)) (pg_name (i := 9) nd rfl (Or.inl rfl)) (pss_one (ps_if (pt_cmpR op_ne (pe_callB (cr_reprk (K := W.K) rfl hg hr) rfl T.free_repr boot_repr (pa_cons (pe_ixtk (K := W.K) rfl (pv 6) (pv 9) (fun _ _ => rfl)) pa_nil)) (pe_callB (cr_reprk (K := W.K) rfl hg hr) rfl T.free_repr boot_repr (pa_cons (pe_ifExp (pt_cmpR op_eq (pe_ixtk (K := W.K) rfl (pv 8) (pv 9) (fun _ _ => rfl)) (pe_callB (cr_lenk (K := W.K) rfl) rfl T.free_len boot_len (pa_cons (pv 4) pa_nil)) (nomark _)) (pe_ixlk (K := W.K) rfl (pv 7) (pv 9) (fun _ _ => rfl)) pe_non) pa_nil)) (nomark _)) (pss_one (ps_ret pe_bl)) pss_nil))) (pss_cons (ps_for PassesOwn.never rfl (pi_listk (K := W.K) rfl (pe_mtd0 (pv 3) T.cls_Net C_Net_bag rfl hr (by decide) hg)) (pg_tupk (K := W.K) (n := 4) rfl rfl (pgs_cons (pg_name (i := 10) nd rfl (Or.inl rfl)) (pgs_cons (pg_name (i := 11) nd rfl (Or.inl rfl)) (pgs_cons (pg_name (i := 12) nd rfl (Or.inl rfl)) (pgs_cons (pg_name (i := 13) nd rfl (Or.inl rfl)) pgs_nil)))) rfl) (pss_one (ps_if (pt_cmpR op_ne (pe_callB (cr_reprk (K := W.K) rfl hg hr) rfl T.free_repr boot_repr (pa_cons (pv 13) pa_nil)) (pe_callB (cr_reprk (K := W.K) rfl hg hr) rfl T.free_repr boot_repr (pa_cons (pe_ixlk (K := W.K) rfl (pe_ixlk (K := W.K) rfl (pv 5) (pv 12) (fun _ _ => rfl)) (pv 11) (fun _ _ => rfl)) pa_nil)) (nomark _)) (pss_one (ps_ret pe_bl)) pss_nil))) (pss_one (ps_ret (pe_cmpR op_eq (pe_callB (cr_reprk (K := W.K) rfl hg hr) rfl T.free_repr boot_repr (pa_cons (pe_cal C_answers rfl hr (by decide) hg rfl (pa_cons (pv 2) (pa_cons (pv 1) (pa_cons (pv 4) pa_nil)))) pa_nil)) (pe_callB (cr_reprk (K := W.K) rfl hg hr) rfl T.free_repr boot_repr (pa_cons (pe_callTy (cr_tupk (K := W.K) rfl) rfl T.free_tuple boot_tuple (pa_cons (pv 7) pa_nil)) pa_nil)) (nomark _))))))))), ?_⟩
    have n5 := ro.n5
    have n3 := ro.n3
    have r12 := ro.ok.r
    have hk := ro.ok.k
    have hpl := ro.pl
    have len : (ins.map V.int).length = ins.length := List.length_map _
    have rmem : ∀ r me, me < ins.length → r ≤ s.rounds → MemOk s r (runD s ins.length ins (patF p) r me) := fun r me hm hr => run_mem ro.ok (by omega) n5 ro.io r me hm hr
    have rn := run_note I tl
    obtain ⟨ps, hp1, hp2, hp3⟩ := ro.pt
    have rro : RunOk W H s fo ia pa ins p := ⟨so.f, ro.i, ro.pt, ro.ok, ro.po, n3, n5, ro.io, hpl⟩
    have hlA : ∀ {H' : Hp} {σ : L2.St}, Ex H H' → σ[1]? = some (some (.ref ia)) → EvA (tCons (tCB (rLenS W.K) (tCons (tVar 1) tNil)) tNil) σ H' [.int (ins.length : Nat)] := fun e h => ea_cons (by rw [← len]; exact ev_lenT (ev_var h) (st_of (e _ _ ro.i))) ea_nil
    refine q_asg2P (P1 := fun v H => ∃ f, v = .ref f ∧ RunsAt H f s ins p) (P2 := (ToldP ins.length (answers s S)).p) (ep_cal (vs := [.ref sh, .ref ia, .ref pa]) (by walk_at "ev") fun H1 e1 Q k => ⟨sh, ia, pa, s, ins, p, rfl, ro.ex e1, fun f H2 e2 hr => k _ H2 e2 ⟨f, rfl, hr⟩⟩) (fun v H1 H2 e h => by obtain ⟨f, h1, h2⟩ := h; exact ⟨f, h1, runs_up e h2⟩)
      (ep_mtd0 T (ev_var rfl) ni (by decide +kernel) fun H1 e1 Q k => ⟨g, st, c, fo, ia, s, ins, S, rfl, ni.ex e1, so.ex e1, N.exx e1, I, k⟩) (fun v H1 H2 e h => (ToldP _ _).up (Ex.frT e) h) fun x y H1 e1 p1 p2 => ?_
    obtain ⟨f, rfl, acc, ha1, ha2, ha3⟩ := p1
    obtain ⟨ta, ts, rfl, ht1, ht2, ht3⟩ := p2
    have hlast : acc[s.rounds]? = some (acc[s.rounds]'(by omega)) := by simp [ha2]
    obtain ⟨la, lv, hl1, hl2, hl3, hl4⟩ := ha3 _ _ hlast
    refine q_asgP (P := LstP ins.length fun me => MP.eq (iV (ansD s me (runD s ins.length ins (patF p) s.rounds me)))) (ep_lcR (fun me => MP.eq (iV (ansD s me (runD s ins.length ins (patF p) s.rounds me)))) (hlA e1 rfl) (by omega) (fun _ => rfl) fun i hi => ?_) fun lst H2 e2 plst => ?_
    · have hlv : lv[i]? = some (lv[i]'(by omega)) := by simp [hl3, hi]
      refine ep_bind1 (P := AnsP W.K s i (runD s ins.length ins (patF p) s.rounds i)) (ep_cal (vs := [.ref sh, .int (i : Nat), lv[i]'(by omega)]) (ea_cons (ev_var rfl) (ea_cons (ev_var rfl) (ea_cons (ev_op (ev_is (ev_op (ev_var rfl) (ev_un ev_c ru_neg) (rv_ixL (sq_of ha1) (atI_neg1 ha2 hlast))) hl1) (ev_var rfl) (rv_ixL (sq_of hl2) (atI_nat hlv))) ea_nil))) fun H3 e3 Q k => ⟨sh, s, i, s.rounds, _, _, rfl, (ro.ex (e1.trans e3)).sh, (show IsD H1 _ _ from hl4 i _ hlv).ex e3, rmem s.rounds i hi (Nat.le_refl _), hk, fun z => ro.ok.k1 z, k⟩) fun v H3 e3 pv Q k => ?_
      exact ⟨v, s, i, _, rfl, pv, k⟩
    obtain ⟨ll, ls, rfl, hls1, hls2, hls3⟩ := plst
    have e12 := e1.trans e2
    refine q_asgP (P := (MP.tup ins.length fun me => MP.eq (.int (S.done me : Nat))).p) (ep_mtd0 T (ev_var rfl) (ni.ex e12) (by decide +kernel) fun H3 e3 Q k => ⟨g, st, c, fo, ia, s, ins, S, rfl, ni.ex (e12.trans e3), so.ex (e12.trans e3), N.exx (e12.trans e3), k⟩) fun av H3 e3 pav => ?_
    obtain ⟨aa, as, rfl, has1, has2, has3⟩ := pav
    have e13 := e12.trans e3
    have ht13 := (e2.trans e3) _ _ ht1
    have hls13 := e3 _ _ hls1
    have ha13 := (e2.trans e3) _ _ ha1
    refine q_forR1 (n := (ins.length : Nat)) (hlA e13 rfl) ⟨by omega, by omega⟩ (fun i σ' H' => Ex H3 H' ∧ ∃ y : Option V, σ' = [some (.ref sh), some (.ref ia), some (.ref fo), some (.ref g), some (.ref pa), some (.ref f), some (.ref ta), some (.ref ll), some (.ref aa), y, none, none, none, none]) (fun H4 e4 => ⟨e4, none, rfl⟩) ?_ ?_
    · rintro i σ' H4 hi ⟨e4, _, rfl⟩
      have hi : i < ins.length := by omega
      have h1 : ts[i]? = some (iV (answers s S i)) := by
        have : ts[i]? = some (ts[i]'(by omega)) := by simp [ht2, hi]
        rw [this, show ts[i]'(by omega) = iV (answers s S i) from ht3 i _ this]
      have h2 : ls[i]? = some (iV (ansD s i (runD s ins.length ins (patF p) s.rounds i))) := by
        have : ls[i]? = some (ls[i]'(by omega)) := by simp [hls2, hi]
        rw [this, show ls[i]'(by omega) = _ from hls3 i _ this]
      have h3 : as[i]? = some (.int (S.done i : Nat)) := by
        have : as[i]? = some (as[i]'(by omega)) := by simp [has2, hi]
        rw [this, show as[i]'(by omega) = _ from has3 i _ this]
      have sw : KnM.Showy (iD (answers s S i)) := (sw_iD fun j hj => by
        unfold answers at hj
        split at hj
        · rename_i hd
          exact ans_small hk (fun z => by rw [hd]; exact ro.ok.k1 z) (by omega) (I.mem i _ hi (Nat.le_refl _)) hj
        · cases hj).y (by decide) (by decide)
      refine s_when (b := false) (et_test (ev_is (ev_op (ev_repr (ev_op (ev_var rfl) (ev_var rfl) (rv_ixT (st_of (e4 _ _ ht13)) (atI_nat h1))) (isD_i _) sw) (ev_repr (x := iV (answers s S i)) (ev_if (b := decide (S.done i = s.rounds)) (et_is (et_test (ev_op (ev_op (ev_var rfl) (ev_var rfl) (rv_ixT (st_of (e4 _ _ has1)) (atI_nat h3))) (ev_lenT (ev_var rfl) (st_of ((e13.trans e4) _ _ hp1))) (rv_eq rfl))) (by rw [hp2, hpl, nat_eq_dec])) (fun h => ?_) fun h => ?_) (isD_i _) sw) (rv_ne rfl)) (congrArg V.bl (by simp)))) (fun h => by cases h) fun _ H5 e5 => ⟨e4.trans e5, _, rfl⟩
      · have hd := of_decide_eq_true h
        have : answers s S i = ansD s i (runD s ins.length ins (patF p) s.rounds i) := by
          unfold answers
          rw [if_pos hd, rn s.rounds i hi (by omega), hd]
        rw [this]
        exact ev_op (ev_var rfl) (ev_var rfl) (rv_ixL (sq_of (e4 _ _ hls13)) (atI_nat h2))
      · have hd := of_decide_eq_false h
        have : answers s S i = none := by
          unfold answers
          rw [if_neg hd]
        rw [this]
        exact ev_c
    · rintro σ' H4 ⟨e4, y9, rfl⟩
      have e14 := e13.trans e4
      refine q_forLP (G := fun a ls H => ls.length = S.bag.length ∧ ∀ (i : Nat) (v : V) (l : Nat × Nat × Nat), ls[i]? = some v → S.bag[i]? = some l → LetP H S l v) (ep_mtd0 (P := BagP S) T (ev_var rfl) (ni.ex e14) (by decide +kernel) fun H5 e5 Q k => ⟨g, st, c, fo, ia, s, ins, S, rfl, ni.ex (e14.trans e5), so.ex (e14.trans e5), N.exx (e14.trans e5), k⟩)
        (fun a xs i σ' H' => Ex H4 H' ∧ H' a = some (.lst xs) ∧ (xs.length = S.bag.length ∧ ∀ (i : Nat) (v : V) (l : Nat × Nat × Nat), xs[i]? = some v → S.bag[i]? = some l → LetP H' S l v) ∧ ∃ y10 y11 y12 y13 : Option V, σ' = [some (.ref sh), some (.ref ia), some (.ref fo), some (.ref g), some (.ref pa), some (.ref f), some (.ref ta), some (.ref ll), some (.ref aa), y9, y10, y11, y12, y13])
        (fun a xs H5 e5 h1 h2 => ⟨e5, h1, h2, none, none, none, none, rfl⟩) (fun a xs i σ' H' pv => pv.2.1) ?_ ?_
      · rintro a xs i x σ' H5 hx ⟨e5, h1, ⟨h2, h3⟩, _, _, _, _, rfl⟩
        have hib : i < S.bag.length := by
          have := (List.getElem?_eq_some_iff.1 hx).1
          omega
        have hb : S.bag[i]? = some S.bag[i] := by simp [hib]
        obtain ⟨t, m, rfl, ht, hm⟩ := h3 i x _ hx hb
        obtain ⟨b1, b2, b3, b4, b5⟩ := I.bag S.bag[i] (List.getElem_mem hib)
        generalize S.bag[i] = l at hb ht hm b1 b2 b3 b4 b5
        refine ⟨t, _, rfl, st_of ht, rfl, _, _, rfl, _, _, rfl, _, _, rfl, _, _, rfl, rfl, ?_⟩
        have hr : acc[l.2.2]? = some (acc[l.2.2]'(by omega)) := by
          have : l.2.2 < acc.length := by omega
          simp [this]
        obtain ⟨ra, rv, hr1, hr2, hr3, hr4⟩ := ha3 _ _ hr
        have hrv : rv[l.2.1]? = some (rv[l.2.1]'(by omega)) := by simp [hr3, b2]
        have hd : IsD H1 (rv[l.2.1]'(by omega)) (S.note l.2.1 l.2.2) := by
          rw [← rn l.2.2 l.2.1 b2 b4]
          exact hr4 _ _ hrv
        have e15 := (e2.trans e3).trans (e4.trans e5)
        have sw := mem_showy hk (by omega) (I.mem l.2.1 l.2.2 b2 b4)
        refine s_when (b := false) (et_test (ev_is (ev_op (ev_repr (ev_var rfl) hm sw) (ev_repr (ev_op (ev_is (ev_op (ev_var rfl) (ev_var rfl) (rv_ixL (sq_of (e15 _ _ ha1)) (atI_nat hr))) hr1) (ev_var rfl) (rv_ixL (sq_of (e15 _ _ hr2)) (atI_nat hrv))) (hd.ex e15) sw) (rv_ne rfl)) (congrArg V.bl (by simp)))) (fun h => by cases h) fun _ H6 e6 => ⟨e5.trans e6, e6 _ _ h1, ⟨h2, fun i v l a b => (h3 i v l a b).up (Ex.frT e6)⟩, _, _, _, _, rfl⟩
      · rintro a xs σ' H5 ⟨e5, h1, h2, _, _, _, _, rfl⟩
        have e05 := e14.trans e5
        have toD : ∀ {v : V} {H' : Hp}, (AnsR s ins p).p v H' → IsD H' v (.tuple ((List.range ins.length).map fun me => iD (ansD s me (runD s ins.length ins (patF p) s.rounds me)))) := fun {v H'} h => by
          obtain ⟨a, vs, rfl, a1, a2, a3⟩ := h
          refine .tup a1 (isDs_of (by simp [a2]) fun i w d hw hd => ?_)
          have hi : i < ins.length := by
            have := (List.getElem?_eq_some_iff.1 hw).1
            omega
          rw [map_get hi] at hd
          cases hd
          rw [show w = _ from a3 i w hw]
          exact isD_i _
        have sw : KnM.Showy (.tuple ((List.range ins.length).map fun me => iD (ansD s me (runD s ins.length ins (patF p) s.rounds me)))) := (sw_tup (B := 2000) (m := 0) (n := 5) (fun d hd => by
          obtain ⟨me, hme, rfl⟩ := List.mem_map.1 hd
          have hme := List.mem_range.1 hme
          exact sw_iD fun j hj => ans_small hk (fun z => ro.ok.k1 z) (by omega) (rmem s.rounds me hme (Nat.le_refl _)) hj) (by simpa using n5)).y (by decide) (by decide)
        refine s_retE (v := .bl true) (ev_is (ev_op (ev_reprP (EvP.imp (R := fun v H => IsD H v _) (ep_cal (P := (AnsR s ins p).p) (vs := [.ref fo, .ref ia, .ref pa]) (by walk_at "ev") fun H6 e6 Q k => ⟨fo, ia, pa, s, ins, p, rfl, rro.ex (e05.trans e6), k⟩) fun v H' _ h => toD h) sw) (ev_reprP (EvP.imp (R := fun v H => IsD H v _) (ep_tupOf (n := ins.length) (Pi := fun me => MP.eq (iV (ansD s me (runD s ins.length ins (patF p) s.rounds me)))) (ep_is (ev_var rfl) fun H' e' => ⟨ll, ls, rfl, (e3.trans ((e4.trans e5).trans e')) _ _ hls1, hls2, hls3⟩)) fun v H' _ h => toD h) sw) (rv_eq rfl)) (congrArg V.bl (decide_eq_true rfl))) fun v H6 e6 pv => q v H6 (e05.trans e6) pv
end Kn

set_option Elab.async false
set_option linter.all false
set_option maxRecDepth 100000
set_option maxHeartbeats 4000000
/-! the law's folk: a def of one return whose parameter's cell lives on in the lambdas -/
namespace Kn
open PySem PySem.Spec PyProof.Rows L2 Evl
/-- the cell at c, told anew behind the call -/
theorem ce_cell {P : Program} {w : World} {outer : List Env} {s s1 : Shared} {H H1 : Hp} {Q : VK} {v : V} {u : Value} {c sh : Addr} (os : s1.os = s.os) (bare : AllBare s1.gens) (un : Un (frs outer) [] H H1 s.heap s1.heap) (hok : HOk P w H1 s1.heap) (rv : RelV v u)
    (hc : s.heap.objs.size ≤ c) (h0 : H c = none) (h1 : H1 c = none) (cell : s1.heap.IsCell c (some (.ref sh))) (q : Q v (upd H1 c (CellO c sh))) : CE outer P w H s Q u s1 := by
  have nb : ∀ b o, s.heap.get? b = some o → b ≠ c := fun b o e z => absurd (Heap.lt_size e) (Nat.not_lt.2 (by rw [z]; exact hc))
  refine ⟨v, upd H1 c (CellO c sh), os, bare, ⟨un.keep, un.slot, fun b o e n hx => (upd_ne (nb b o e)).trans (un.free b o e n hx), un.there, fun b xs n => (upd_ne (ne_of_none n h0)).trans (un.tups b xs n), fun b o u n => (upd_ne (ne_of_none n h0)).trans (un.frzs b o u n), fun b ps n => ?_⟩, fun b u e => ?_, rv, q⟩
  · obtain ⟨more, z⟩ := un.tbls b ps n
    exact ⟨more, (upd_ne (ne_of_none n h0)).trans z⟩
  · by_cases hb : b = c
    · subst hb
      rw [upd_same] at e
      cases e
      exact cellO_ok cell
    · rw [upd_ne hb] at e
      exact (hok b u e).stay (fun _ _ _ z => z) (fun d z => (upd_ne (ne_of_none z h1)).trans z) fun d xs z => (upd_ne (ne_of_none z h1)).trans z
/-- a def of one return, the cell of its only parameter known behind it -/
theorem fng_cell {W : Wd} {k : Nat} {f : Addr} {fd : FuncData} {x qual y : Str} {pr : Arguments} {e : Expr} {pos : Pos} {sc : Scope} {sp : GS}
    (F : FunD W.K x qual pr [.Return (some e) pos] sc [] [] f fd) (S : FnScope [y] [y] sc) (hl : ∀ vs H Q, sp vs H Q → ∃ sh, vs = [.ref sh])
    (hcell : ∀ (L f : Addr) (cd : Value), (envOfC qual sc L f cd).cells.lookup y = some (L + 1)) (hkind : ∀ (L f : Addr) (cd : Value), (envOfC qual sc L f cd).kindOf y = some .cell)
    (hb : ∀ (cdv : Value) (A : Around) (outer : List Env) (s : Shared) (H : Hp) (sh : Addr) (Q : VK), (∃ (oc : Value) (od : Option Addr) (dV kV doc pm : Value) (an : Option Addr) (ct : Value) (osl : Array (Option Value)), W.K.lookup f = some ⟨oc, od, .func (PySem.W.fnOf x qual pr [.Return (some e) pos] sc dV kV doc pm an cdv ct), osl⟩) → PySem.W.codeIn W.K cdv qual = true → Room k (A.deeper (envOfC qual sc s.heap.objs.size f cdv)) → A.guards = some [] → H (s.heap.objs.size + 1) = none → sp [.ref sh] H Q →
      ∃ t, PE (cxG W [y] qual sc f cdv A outer s H) e t ∧ t [some (.ref sh)] H fun v H1 => H1 (s.heap.objs.size + 1) = none → Q v (upd H1 (s.heap.objs.size + 1) (CellO (s.heap.objs.size + 1) sh))) :
    FnG W (k + 1) f fd [y] sp := by
  obtain ⟨oc, od, dV, kV, doc, pm, an, cdv, ct, osl, rfl, lk, hcd, _, _⟩ := F.ex
  refine ⟨fun vs H Q h => by obtain ⟨sh, e⟩ := hl vs H Q h; rw [e]; rfl, fun A outer s H args us vs Q rm hg env0 bnd rel want => ?_⟩
  obtain ⟨sh, hvs⟩ := hl vs H Q want
  subst hvs
  have inK : W.K.In s.heap := env0.mod.kin.keeps fun b o e => (env0.bs b o e).1
  have nolim : s.heap.NoLimit := env0.mod.nolimit.keeps fun b o e => (env0.bs b o e).1
  refine codeAny_call_function rm.depth (inK _ _ lk) rfl S.co S.gen rfl (PySem.W.codeRec_of inK hcd) (bnd _ _ _ _ ?_)
  refine wpAny_newFunctionEnv_cells S.kind (fun z hz => ?_) fun env he s1 x => ?_
  · rcases S.par z.1 (List.of_mem_zip hz).1 with q | q
    · exact Or.inl q
    · exact Or.inr ⟨q, PySem.W.cellsFrom_some _ _ _ (Or.inl q)⟩
  subst he
  refine ⟨nolim.keeps x.toInCall.keep, codeAny_func ?_⟩
  have h0 : H (s.heap.objs.size + 1) = none := env0.hok.fresh (Nat.le_succ _)
  obtain ⟨t, run, fin⟩ := hb cdv A outer s H sh Q ⟨oc, od, dV, kV, doc, pm, an, ct, osl, lk⟩ hcd (room_dec rm) hg h0 want
  have I0 := inv_start (CX := CX0) (E := E0) S rm.hd env0 (by rfl) rel x
  have hc : (cxG W [y] qual sc f cdv A outer s H).env.cells.lookup y = some (s.heap.objs.size + 1) := hcell _ _ _
  have step : ∀ (u : Value) (s2 : Shared), EP (cxG W [y] qual sc f cdv A outer s H) [] [some (.ref sh)] (fun v H1 => H1 (s.heap.objs.size + 1) = none → Q v (upd H1 (s.heap.objs.size + 1) (CellO (s.heap.objs.size + 1) sh))) u s2 → CE outer W.P W.w H s Q u s2 := fun u s2 z => by
    obtain ⟨v, H1, J, rv, q⟩ := z
    have n1 := J.freeC y _ hc
    have cell : s2.heap.IsCell (s.heap.objs.size + 1) (some (.ref sh)) := by
      obtain ⟨m, _, hlk⟩ := J.loc
      obtain ⟨u0, ru, lo⟩ := hlk 0 y (.ref sh) rfl rfl (Or.inr (Or.inl (hkind _ _ _)))
      obtain rfl : u0 = Value.ref sh := ru
      rcases lo with ⟨h1, _⟩ | ⟨_, c, h2, h3⟩
      · exact nomatch (hkind s.heap.objs.size f cdv).symm.trans h1
      · rw [hc] at h2
        cases h2
        exact h3
    exact ce_cell J.os J.bare J.base J.hok rv (Nat.le_succ _) h0 n1 cell (q n1)
  refine wpAny_mono (Q := fun fl s2 => ∃ u, fl = .ret u ∧ CE outer W.P W.w H s Q u s2) (wpAny_execs_cons (thn (Q := fun fl s2 => ∃ u, fl = .ret u ∧ CE outer W.P W.w H s Q u s2) (wpAny_Return_some (thn (run.run [] s1 [some (.ref sh)] H _ (I0.wish _) fin) fun u s2 z => ?_)) fun fl s2 z => ?_)) (fun fl s2 z => ?_) fun _ _ z => False.elim z
  · exact (⟨u, rfl, step u s2 z⟩ : ∃ u', Flow.ret u = .ret u' ∧ CE outer W.P W.w H s Q u' s2)
  · obtain ⟨u, rfl, c⟩ := z
    exact ⟨u, rfl, c⟩
  · obtain ⟨u, rfl, c⟩ := z
    exact c
/-- the table of the law's folk -/
abbrev tP (W : Wd) : Addr := (He.cT W.K ("_law_folk", none)).2
abbrev tC0 (W : Wd) : Addr := (He.cT W.K ("_law_folk", none)).1
def sp__law_folk (W : Wd) : GS := fun vs H Q => ∃ (sh : Addr) (s : Sh), vs = [.ref sh] ∧ ShapeAt H sh s ∧ s.rounds ≤ 30 ∧ LamX.Tabs [(tP W, lq)] H ∧ ∀ fo H', LamX.ExtN H H' → FolkAt W H' fo s → Q (.ref fo) H'
theorem codeIn_ref {K : PySem.W.Frag} {v : Value} {q : Str} (h : PySem.W.codeIn K v q = true) : ∃ c, v = .ref c := by
  unfold PySem.W.codeIn at h
  cases v <;> first | exact ⟨_, rfl⟩ | cases h
def folkE : Expr := match defBody s_law_folk with
  | [.Return (some e) _] => e
  | _ => .Constant .none 0 ⟨0, 0, 0, 0⟩
def folkPos : Pos := match defBody s_law_folk with
  | [.Return _ p] => p
  | _ => ⟨0, 0, 0, 0⟩
theorem sc__law_folk : FnScope ["_law_shape_here"] ["_law_shape_here"] (defScope s_law_folk) := ⟨rfl, rfl, rfl, by decide +kernel, rfl, by decide +kernel, by decide +kernel⟩
theorem cal_mkf {W : Wd} (T : TopW W) {d : He.DefD} {x : Str} {k : Nat} {sp : GS} {ps : List Str} (i j : Nat) (hi : fn[i]? = some d) (hj : fa[j]? = some (.glo x)) (hat : d.at_ = (x, none)) (h1 : d.dvs W.K = []) (h2 : d.kws W.K = [])
    (g : ∀ (fd : FuncData), FunD W.K d.name d.qual d.params d.body d.scope [] [] (He.fAd W.K (x, none)) fd → FnG W k (He.fAd W.K (x, none)) fd ps sp ∧ Binds W.K fd ps []) : Cal W x k sp := by
  obtain ⟨h, X, G⟩ := T.hat
  obtain ⟨fd, F⟩ := T.says.def_ i hi
  rw [h1, h2, hat] at F
  obtain ⟨a, b⟩ := g _ F
  exact ⟨⟨_, fd, ps, a, He.glo_ok X G (T.says.fact j hj), F.kp, b⟩⟩
theorem free_LB : ∀ z ∈ LB.scope.names, z.2 = .free → (defScope s_law_folk).names.lookup z.1 = some .cell ∨ (defScope s_law_folk).names.lookup z.1 = some .free := by decide +kernel
theorem free_LS : ∀ z ∈ LS.scope.names, z.2 = .free → (defScope s_law_folk).names.lookup z.1 = some .cell ∨ (defScope s_law_folk).names.lookup z.1 = some .free := by decide +kernel
theorem free_LA : ∀ z ∈ LA.scope.names, z.2 = .free → (defScope s_law_folk).names.lookup z.1 = some .cell ∨ (defScope s_law_folk).names.lookup z.1 = some .free := by decide +kernel
theorem C__law_folk {W : Wd} (T : TopW W) (TB : LamX.TabB W.base W.mg (tC0 W) (tP W)) : Cal W "_law_folk" 7 (sp__law_folk W) := by
  have C_Folk := C_Folk T
  refine cal_mkf T (d := d_law_folk) (ps := ["_law_shape_here"]) 49 41 rfl rfl rfl rfl rfl fun fd F => ⟨fng_cell (y := "_law_shape_here") (e := folkE) (pos := folkPos) F sc__law_folk (fun vs H Q h => ?_) (fun _ _ _ => rfl) (fun _ _ _ => rfl) (fun cdv A outer s H sh Q lk hcd hr hg hc0 h => ?_), F.bindsN fun _ _ _ _ _ _ us hl => match us, hl with | [_], _ => rfl⟩
  · obtain ⟨sh, s, rfl, _⟩ := h
    exact ⟨sh, rfl⟩
  · obtain ⟨sh, s0, e, hs, hr30, ht, q⟩ := h
    cases e
    obtain ⟨cd, rfl⟩ := codeIn_ref hcd
    obtain ⟨oc, od, dV, kV, doc, pm, an, ct, osl, lk⟩ := lk
    have ecd : tC0 W = cd := He.codeOf_eq lk rfl
    rw [ecd] at TB
    have hm : (tP W, lq) ∈ [(tP W, lq)] := List.mem_singleton.2 rfl
    have hu : ∀ p ∈ [(tP W, lq)], p.1 = tP W → p.2 = lq := fun p hp _ => by rw [List.mem_singleton.1 hp]
    refine ⟨_, pe_mkg C_Folk rfl hr (by decide) hg rfl (pa_cons (pe_ixlk (K := W.K) rfl (pv 0) pe_int (fun _ _ => rfl)) (pa_cons (pe_lam (T := [(tP W, lq)]) (y := ly) (c := s.heap.objs.size + 1) TB rfl rfl hm hu rfl free_LB rfl)
      (pa_cons (pe_lam (T := [(tP W, lq)]) (y := ly) (c := s.heap.objs.size + 1) TB rfl rfl hm hu rfl free_LS rfl) (pa_cons (pe_lam (T := [(tP W, lq)]) (y := ly) (c := s.heap.objs.size + 1) TB rfl rfl hm hu rfl free_LA rfl) pa_nil)))), ?_⟩
    refine (ev_op (ev_var rfl) ev_c (rv_ixL hs.sq (atI_nat (j := 0) rfl)) : Ev (tOp (rIxL W.K) (tVar 0) (tC (V.int 0))) [some (V.ref sh)] H (.int (s0.rounds : Nat))) H (Ex.refl H) _ fun H0 e0 => ?_
    refine ⟨ht.ext e0, fun f1 c1 H1 x1 T1 n1 hf1 hc1 => ⟨T1, fun f2 c2 H2 x2 T2 n2 hf2 hc2 => ⟨T2, fun f3 c3 H3 x3 T3 n3 hf3 hc3 => ?_⟩⟩⟩
    refine fun x dx hx hdx hne => ?_
    have x03 : LamX.ExtN H H3 := ((LamX.ExtN.of e0).trans x1).trans (x2.trans x3)
    have ed : Ex H3 (upd H3 dx (.own x)) := Ex.new hdx
    have hx2 : upd H3 dx (.own x) x = none := (upd_ne hne.symm).trans hx
    have em : Ex H3 (upd (upd H3 dx (.own x)) x (.ins (He.ga W.K "Folk") dx [])) := ed.trans (Ex.new hx2)
    have a1 := x3 _ _ (x2 _ _ hf1 fun _ => fun z => nomatch z) fun _ => fun z => nomatch z
    have b1 := x3 _ _ (x2 _ _ hc1 fun _ => fun z => nomatch z) fun _ => fun z => nomatch z
    have a2 := x3 _ _ hf2 fun _ => fun z => nomatch z
    have b2 := x3 _ _ hc2 fun _ => fun z => nomatch z
    refine ⟨x, f1, f2, f3, dx, s0.rounds, rfl, upd_same, ⟨_, _, _, _, _, em _ _ a1⟩, ⟨_, _, _, _, _, em _ _ a2⟩, ⟨_, _, _, _, _, em _ _ hf3⟩, hr30, fun H' f' hx' => ⟨rfl, fun hcn => ?_⟩⟩
    have up : ∀ a o, H3 a = some o → upd H' (s.heap.objs.size + 1) (CellO (s.heap.objs.size + 1) sh) a = some o := fun a o h => by
      have h1 := f' a o (em _ _ h) (ne_of_none h hx)
      rw [upd_ne (ne_of_none h1 hcn)]
      exact h1
    refine q x _ (fun a o h n => up a o (x03 a o h n)) ⟨dx, f1, f2, f3, s.heap.objs.size + 1, sh, (upd_ne (ne_of_none hx' hcn)).trans hx', ⟨c1, up _ _ a1, up _ _ b1⟩, ⟨c2, up _ _ a2, up _ _ b2⟩, ⟨c3, up _ _ hf3, up _ _ hc3⟩, upd_same, up _ _ (x03 _ _ hs fun _ => fun z => nomatch z)⟩
end Kn

set_option Elab.async false
set_option linter.all false
set_option maxRecDepth 100000
set_option maxHeartbeats 400000
/-! the words of the law's events -/
namespace Kn
open PySem PySem.Spec PyProof.Rows L2 Evl
local macro_rules | `(tactic| walk_at "ev") => `(tactic| first
  | ((with_reducible apply ev_var); exact rfl)
  | with_reducible exact ev_c
  | with_reducible exact ea_nil
  | ((with_reducible apply ea_cons) <;> walk_at "ev")
  | ((with_reducible apply ev_int); walk_at "ev")
  | ((with_reducible apply ev_op) <;> walk_at "ev")
  | ((with_reducible apply ev_un) <;> walk_at "ev")
  | with_reducible exact rv_I0
  | with_reducible exact rv_isN
  | ((with_reducible apply rv_eq); exact rfl)
  | ((with_reducible apply rv_ne); exact rfl)
  | with_reducible exact ru_neg
  | ((with_reducible apply rv_I); first | exact Or.inl (by decide) | decide | assumption | skip)
  | ((with_reducible apply rv_ixL) <;> first | assumption | exact rfl | skip)
  | ((with_reducible apply rv_ixT) <;> first | assumption | exact rfl | skip)
  | ((with_reducible apply ev_fld) <;> first | walk_at "ev" | assumption | exact rfl | skip)
  | ((with_reducible apply ev_len) <;> first | walk_at "ev" | assumption | skip)
  | ((with_reducible apply ev_lenT) <;> first | walk_at "ev" | assumption | skip)
  | exact rv_eq rfl
  | exact rv_ne rfl
  | assumption
  | skip)
abbrev Wsok (ws : List V) : Prop := ∀ v ∈ ws, ∃ w : Wo, v = .str w.str
theorem t_op {r : R2} {ta tb : TE} {σ : L2.St} {H : Hp} {Q : VK} (h : ta σ H fun x H1 => tb σ H1 fun y H2 => r x y H2 Q) : tOp r ta tb σ H Q := h
theorem t_lst {ta : TA} {σ : L2.St} {H : Hp} {Q : VK} {vs : List V} (h : EvA ta σ H vs) (hz : vs.length ≤ 100000) (k : ∀ p H1, H p = none → Ex H H1 → H1 p = some (.lst vs) → Q (.ref p) H1) : tLst ta σ H Q := el_lst h hz H (Ex.refl H) Q k
theorem t_words {W : Wd} {σ : L2.St} {H Hx : Hp} {p : Addr} {Q : VK} (hv : σ[1]? = some (some (.ref p))) (P : PotAt Hx H p) (k : ∀ wl ws H', H wl = none → Fr (IsA p) H H' → PotAt Hx H' p → H' wl = some (.lst ws) → 0 < ws.length → ws.length ≤ 1000 → Wsok ws → Q (.ref wl) H') :
    tOp rCat (tOp rCat (tOp rRep (tLst (tCons (tC (V.str "come")) tNil)) (tOp (rI0 fun i j => V.int (i + j)) (tC (V.int 5)) (tCal (sp__law_draw W) (tCons (tVar 1) (tCons (tC (V.int 9)) tNil))))) (tOp rRep (tLst (tCons (tC (V.str "go")) tNil)) (tC (V.int 6))))
      (tLst (tCons (tC (V.str "double")) (tCons (tC (V.str "fall")) (tCons (tC (V.str "rise")) (tCons (tC (V.str "rise")) (tCons (tC (V.str "again")) tNil)))))) σ H Q := by
  refine t_op (t_op (t_op (t_lst (vs := [.str "come"]) (ea_cons ev_c ea_nil) (by simp) fun l1 H1 hl1 e1 h1 => t_op ?_)))
  show tCal (sp__law_draw W) (tCons (tVar 1) (tCons (tC (V.int 9)) tNil)) σ H1 _
  have P1 := P.exx e1
  refine t_draw (te := tC (.int 9)) hv P1 ev_c (by decide) (by decide) fun r H2 f2 P2 r0 r1 => ⟨5, r, rfl, rfl, ?_⟩
  have h2 := f2 _ _ h1 (P.ne hl1)
  refine ⟨l1, 5 + r, _, rfl, rfl, h2, by omega, by omega, ?_, fun l2 hl2 => ?_⟩
  · have : (5 + r).toNat ≤ 14 := by omega
    have h14 : 14 ≤ sizeLine := by decide
    show 1 * (5 + r).toNat ≤ sizeLine
    omega
  have x2 := Ex.new (o := .lst (List.replicate (5 + r).toNat [V.str "come"]).flatten) hl2
  have g2 : upd H2 l2 (.lst (List.replicate (5 + r).toNat [V.str "come"]).flatten) l2 = _ := upd_same
  have k2 : (5 + r).toNat ≤ 14 ∧ 0 < (5 + r).toNat := by omega
  generalize (5 + r).toNat = m at k2 x2 g2 ⊢
  generalize upd H2 l2 (.lst (List.replicate m [V.str "come"]).flatten) = H3 at x2 g2 ⊢
  refine t_op (t_lst (vs := [.str "go"]) (ea_cons ev_c ea_nil) (by simp) fun l3 H4 hl3 e4 h4 => ?_)
  refine ⟨l3, 6, _, rfl, rfl, h4, by omega, by omega, ?_, fun l4 hl4 => ?_⟩
  · show 1 * 6 ≤ sizeLine
    decide
  have x4 := Ex.new (o := .lst (List.replicate (6 : Int).toNat [V.str "go"]).flatten) hl4
  have g4 : upd H4 l4 (.lst (List.replicate (6 : Int).toNat [V.str "go"]).flatten) l4 = _ := upd_same
  generalize upd H4 l4 (.lst (List.replicate (6 : Int).toNat [V.str "go"]).flatten) = H5 at x4 g4 ⊢
  have g2' := (e4.trans x4) _ _ g2
  have ml : ((List.replicate m [V.str "come"]).flatten).length = m := by simp
  refine ⟨l2, l4, _, _, rfl, rfl, g2', g4, ?_, fun l5 hl5 => ?_⟩
  · rw [ml]
    have h20 : 20 ≤ sizeLine := by decide
    show m + 6 ≤ sizeLine
    omega
  have x5 := Ex.new (o := .lst ((List.replicate m [V.str "come"]).flatten ++ (List.replicate (6 : Int).toNat [V.str "go"]).flatten)) hl5
  have g5 : upd H5 l5 (.lst ((List.replicate m [V.str "come"]).flatten ++ (List.replicate (6 : Int).toNat [V.str "go"]).flatten)) l5 = _ := upd_same
  generalize upd H5 l5 (.lst ((List.replicate m [V.str "come"]).flatten ++ (List.replicate (6 : Int).toNat [V.str "go"]).flatten)) = H6 at x5 g5 ⊢
  refine t_lst (vs := [.str "double", .str "fall", .str "rise", .str "rise", .str "again"]) (ea_cons ev_c (ea_cons ev_c (ea_cons ev_c (ea_cons ev_c (ea_cons ev_c ea_nil))))) (by simp) fun l6 H7 hl6 e7 h7 => ?_
  have ml2 : ((List.replicate m [V.str "come"]).flatten ++ (List.replicate (6 : Int).toNat [V.str "go"]).flatten).length = m + 6 := by
    rw [List.length_append, ml]
    rfl
  refine ⟨l5, l6, _, _, rfl, rfl, e7 _ _ g5, h7, ?_, fun wl hwl => ?_⟩
  · rw [ml2]
    have h25 : 25 ≤ sizeLine := by decide
    show m + 6 + 5 ≤ sizeLine
    omega
  have x8 := Ex.new (o := .lst (((List.replicate m [V.str "come"]).flatten ++ (List.replicate (6 : Int).toNat [V.str "go"]).flatten) ++ [.str "double", .str "fall", .str "rise", .str "rise", .str "again"])) hwl
  have e28 := ((x2.trans e4).trans (x4.trans x5)).trans e7
  have f17 : Fr (IsA p) H H7 := (Fr.ex e1).trans (f2.trans (Fr.ex e28))
  have P7 := P2.exx e28
  refine k wl _ _ (f17.back hwl (P7.ne hwl)) (f17.trans (Fr.ex x8)) (P7.exx x8) upd_same ?_ ?_ fun v hv => ?_
  · rw [List.length_append, ml2]
    omega
  · rw [List.length_append, ml2]
    show m + 6 + 5 ≤ 1000
    omega
  · rcases List.mem_append.1 hv with hv | hv
    · rcases List.mem_append.1 hv with hv | hv
      · simp at hv
        exact ⟨.come, hv.2⟩
      · simp at hv
        exact ⟨.go, hv⟩
    · simp at hv
      rcases hv with rfl | rfl | rfl | rfl
      · exact ⟨.double, rfl⟩
      · exact ⟨.fall, rfl⟩
      · exact ⟨.rise, rfl⟩
      · exact ⟨.again, rfl⟩
end Kn

set_option Elab.async false
set_option linter.all false
set_option maxRecDepth 100000
set_option maxHeartbeats 4000000
/-! the law -/
namespace Kn
open PySem PySem.Spec PyProof.Rows L2 Evl
local macro_rules | `(tactic| walk_at "ev") => `(tactic| first
  | ((with_reducible apply ev_var); exact rfl)
  | with_reducible exact ev_c
  | with_reducible exact ea_nil
  | ((with_reducible apply ea_cons) <;> walk_at "ev")
  | ((with_reducible apply ev_int); walk_at "ev")
  | ((with_reducible apply ev_op) <;> walk_at "ev")
  | ((with_reducible apply ev_un) <;> walk_at "ev")
  | with_reducible exact rv_I0
  | with_reducible exact rv_isN
  | ((with_reducible apply rv_eq); exact rfl)
  | ((with_reducible apply rv_ne); exact rfl)
  | with_reducible exact ru_neg
  | ((with_reducible apply rv_I); first | exact Or.inl (by decide) | decide | assumption | skip)
  | ((with_reducible apply rv_ixL) <;> first | assumption | exact rfl | skip)
  | ((with_reducible apply rv_ixT) <;> first | assumption | exact rfl | skip)
  | ((with_reducible apply ev_fld) <;> first | walk_at "ev" | assumption | exact rfl | skip)
  | ((with_reducible apply ev_len) <;> first | walk_at "ev" | assumption | skip)
  | ((with_reducible apply ev_lenT) <;> first | walk_at "ev" | assumption | skip)
  | exact rv_eq rfl
  | exact rv_ne rfl
  | assumption
  | skip)
/-- the law's world between its statements -/
structure LW (W : Wd) (Hs H : Hp) (p nt g st fo ia sh : Addr) (c1 c2 : Re) (s : Sh) (ins : List Int) (S : NS) : Prop where
  pot : PotAt Hs H p
  own : OwnW Hs H nt c1 ia sh s ins S
  net : NetW W Hs H st c2 fo ia s ins S
  ni : NetI W Hs g st
  np1 : ¬ c1.Fp ins.length p
  np2 : ¬ c2.Fp ins.length p
  dis : ∀ a, c1.Fp ins.length a → ¬ c2.Fp ins.length a
  inv : InvS s ins.length ins S
section
variable {W : Wd} {Hs H H' : Hp} {p nt g st fo ia sh : Addr} {c1 c2 : Re} {s : Sh} {ins : List Int} {S : NS}
theorem LW.exx (L : LW W Hs H p nt g st fo ia sh c1 c2 s ins S) (e : Ex H H') : LW W Hs H' p nt g st fo ia sh c1 c2 s ins S := ⟨L.pot.exx e, L.own.exx e, L.net.exx e, L.ni, L.np1, L.np2, L.dis, L.inv⟩
theorem LW.draw (L : LW W Hs H p nt g st fo ia sh c1 c2 s ins S) (f : Fr (IsA p) H H') (P : PotAt Hs H' p) : LW W Hs H' p nt g st fo ia sh c1 c2 s ins S :=
  ⟨P, L.own.pot L.pot f P L.np1, ⟨P.ex, L.net.st, L.net.free, L.net.net.fr f (fun a ha e => L.np2 (by have e : a = p := e; rw [← e]; exact ha)) L.pot.noT⟩, L.ni, L.np1, L.np2, L.dis, L.inv⟩
theorem LW.nI (L : LW W Hs H p nt g st fo ia sh c1 c2 s ins S) : NetI W H g st := L.ni.ex L.net.ex
/-- an event in both nets -/
theorem LW.both {H1 H2 : Hp} {d1 d2 : Re} {S' : NS} (L : LW W Hs H p nt g st fo ia sh c1 c2 s ins S) (g2 : Go ins.length c2 H d2 H1 S') (g1 : Go ins.length c1 H1 d1 H2 S') (I : InvS s ins.length ins S') : LW W Hs H2 p nt g st fo ia sh d1 d2 s ins S' := by
  have hp := L.pot.some
  have N1 : NetAt H1 ins.length c1 S := L.own.net.fr g2.fr L.dis fun a xs ha h => L.net.net.noT a xs ha h
  have OW1 : OwnW Hs H1 nt c1 ia sh s ins S := ⟨fun a o h => g2.fr a o (L.own.ex a o h) (fun z => by rw [L.net.free a z] at h; cases h), L.own.st, L.own.free, N1⟩
  have full : ∀ {x : Addr}, H x ≠ none → ¬ c2.Fp ins.length x → H1 x ≠ none := fun {x} h n => by
    cases z : H x with
    | none => exact absurd z h
    | some o => rw [g2.fr x o z n]; exact fun q => nomatch q
  have p1 : H1 p ≠ none := full hp L.np2
  have nd2 : ¬ d2.Fp ins.length p := fun h => (g2.sub p h).elim L.np2 hp
  have nd1 : ¬ d1.Fp ins.length p := fun h => (g1.sub p h).elim L.np1 p1
  have dis12 : ∀ a, c1.Fp ins.length a → ¬ d2.Fp ins.length a := fun a h h2 => (g2.sub a h2).elim (L.dis a h) (L.own.net.full a h)
  have N2 : NetAt H2 ins.length d2 S' := g2.net.fr g1.fr (fun a ha hb => dis12 a hb ha) fun a xs ha h => N1.noT a xs ha h
  have OW2 := Go.ownW OW1 g1
  have NW1 := Go.netW L.net g2
  obtain ⟨ca, ns, i, x, y, z, h1, h2, h3⟩ := L.pot.at_
  have pp : H2 p = some (.lst [.ref ca, .int i, .int x, .int y, .int z]) := g1.fr _ _ (g2.fr _ _ h1 L.np2) L.np1
  refine ⟨⟨OW2.ex, L.pot.fr, ca, ns, i, x, y, z, pp, h2, h3⟩, OW2, ⟨OW2.ex, NW1.st, NW1.free, N2⟩, L.ni, nd1, nd2, fun a h h2 => ?_, I⟩
  rcases g1.sub a h with q | q
  · exact dis12 a q h2
  · exact g2.net.full a h2 q
/-- fits(.., filled(pot, missed, rounds)) -/
theorem t_fits {σ : L2.St} {te : TE} {Q : VK} (hσ : σ[1]? = some (some (.ref p)) ∧ σ[3]? = some (some (.int (s.rounds : Nat))) ∧ σ[4]? = some (some (.ref sh)) ∧ σ[5]? = some (some (.ref ia)) ∧ σ[6]? = some (some (.ref fo)) ∧ σ[8]? = some (some (.ref g)))
    (L : LW W Hs H p nt g st fo ia sh c1 c2 s ins S) (hm : EvP te σ H (MissP ins.length S.miss).p) (k : ∀ H', Fr (IsA p) H H' → LW W Hs H' p nt g st fo ia sh c1 c2 s ins S → Q (.bl true) H') :
    tCal (sp__law_fits W) (tCons (tVar 4) (tCons (tVar 5) (tCons (tVar 6) (tCons (tVar 8) (tCons (tCal (sp__law_filled W) (tCons (tVar 1) (tCons te (tCons (tVar 3) tNil)))) tNil))))) σ H Q := by
  obtain ⟨s1, s3, s4, s5, s6, s8⟩ := hσ
  refine ⟨_, s4, _, s5, _, s6, _, s8, _, s1, hm H (Ex.refl H) _ fun v H1 e1 pv => ⟨_, s3, ?_⟩⟩
  have L1 := L.exx e1
  obtain ⟨ma, _, rfl, _⟩ := id pv
  refine ⟨Hs, p, ma, ins.length, s.rounds, S.miss, rfl, L1.pot, pv, fun me hme m hm2 o e => L.inv.miss me m hme hm2 o e, L.own.st.n5, L.own.st.ok.r, fun pa pt H2 f2 P2 hpat hpo hpl htl => ?_⟩
  have L2' := L1.draw f2 P2
  refine ⟨sh, ia, fo, g, pa, st, c2, s, ins, S, pt, rfl, ⟨L2'.own.so.sh, L2'.own.so.i, hpat, L.own.st.ok, hpo, L.own.st.n3, L.own.st.n5, L.own.st.io, hpl⟩, L2'.nI, L2'.net.so, L2'.net.net, L.inv, fun me r m hme hr => ?_, fun v H3 e3 pv3 => ?_⟩
  · have h1 : r < S.done me := (List.getElem?_eq_some_iff.1 hr).1
    have h2 := L.inv.done me hme
    exact htl me r m hme (by omega) hr
  · have pv3 : v = .bl true := pv3
    subst pv3
    exact k H3 ((Fr.ex e1).trans (f2.trans (Fr.ex e3))) (L2'.exx e3)
end
theorem FolkAt.upx {W : Wd} {H H' : Hp} {a : Addr} {s : Sh} (h : FolkAt W H a s) (e : ∀ b o, H b = some o → (∀ ps, o ≠ .tbl ps) → (∀ c l, o ≠ .lst (.ref c :: l)) → H' b = some o) : FolkAt W H' a s := by
  obtain ⟨dx, f1, f2, f3, c, sh, h1, ⟨c1, a1, b1⟩, ⟨c2, a2, b2⟩, ⟨c3, a3, b3⟩, h2, h3⟩ := h
  have z : ∀ {o : HO} {ps : Array Value}, o = .tbl ps → True := fun _ => trivial
  exact ⟨dx, f1, f2, f3, c, sh, e _ _ h1 (fun _ => fun z => nomatch z) (fun _ _ => fun z => nomatch z), ⟨c1, e _ _ a1 (fun _ => fun z => nomatch z) (fun _ _ => fun z => nomatch z), e _ _ b1 (fun _ => fun z => nomatch z) (fun _ _ => fun z => nomatch z)⟩, ⟨c2, e _ _ a2 (fun _ => fun z => nomatch z) (fun _ _ => fun z => nomatch z), e _ _ b2 (fun _ => fun z => nomatch z) (fun _ _ => fun z => nomatch z)⟩,
    ⟨c3, e _ _ a3 (fun _ => fun z => nomatch z) (fun _ _ => fun z => nomatch z), e _ _ b3 (fun _ => fun z => nomatch z) (fun _ _ => fun z => nomatch z)⟩, e _ _ h2 (fun _ => fun z => nomatch z) (fun _ _ => fun z => nomatch z), e _ _ h3 (fun _ => fun z => nomatch z) (fun _ _ => fun z => nomatch z)⟩
theorem NetAt.kind {H : Hp} {n : Nat} {c : Re} {S : NS} (N : NetAt H n c S) {a : Addr} (h : c.Fp n a) : (∃ xs, H a = some (.lst xs)) ∨ ∃ kvs, H a = some (.dT kvs) := by
  rcases h with rfl | rfl | rfl | rfl | rfl | ⟨i, hi, rfl | rfl | rfl⟩
  · obtain ⟨ls, h, _⟩ := N.bag; exact .inl ⟨_, h⟩
  · exact .inl ⟨_, N.up⟩
  · exact .inl ⟨_, N.notes⟩
  · exact .inl ⟨_, N.missed⟩
  · exact .inl ⟨_, N.kept⟩
  · obtain ⟨ls, h, _⟩ := N.no i hi; exact .inl ⟨_, h⟩
  · exact .inl ⟨_, N.mi i hi⟩
  · obtain ⟨ls, h, _⟩ := N.ke i hi; exact .inr ⟨_, h⟩
open Classical in
/-- the worlds of both nets joined: what is fixed is what stands and is of no net and not the pot -/
theorem lw_make {W : Wd} {Hx Hb H5 Hm H6 H7 Hs1 Hs2 : Hp} {p nt x st fo ia sh wl ca0 : Addr} {c1 c2 : Re} {s : Sh} {ins : List Int} {S : NS} {ws : List V} {dxx : Addr} {v1 v2 v3 v4 : V}
    (P7 : PotAt Hx H7 p) (hxb : ∀ a o, Hx a = some o → Hb a = some o) (hpb : Hb p = some (.lst [.ref ca0, v1, v2, v3, v4])) (e5 : Ex Hb H5) (OW : OwnW Hs1 H5 nt c1 ia sh s ins S) (hf1 : ∀ a, c1.Fp ins.length a → Hb a = none) (hx5 : H5 x = none) (em : Ex H5 Hm) (hmx : Hm x = some (.ins (cN W) dxx []))
    (f6 : Fr (IsA x) Hm H6) (ni : NetI W Hs2 x st) (hf2 : ∀ a, c2.Fp ins.length a → Hm a = none) (NW : NetW W Hs2 H6 st c2 fo ia s ins S) (f7 : Fr (IsA p) H6 H7) (hwl : H7 wl = some (.lst ws)) (hwl0 : H6 wl = none) (hf : FolkAt W Hb fo s) (I : InvS s ins.length ins S) :
    ∃ Hs, LW W Hs H7 p nt x st fo ia sh c1 c2 s ins S ∧ Hs wl = some (.lst ws) := by
  obtain ⟨ca, ns, i0, x0, y0, z0, q1, q2, q3⟩ := P7.at_
  have p5 := e5 _ _ hpb
  have pm := em _ _ p5
  have p6 := f6 p _ pm (ne_of_none p5 hx5)
  have np1 : ¬ c1.Fp ins.length p := fun h => by rw [hf1 p h] at hpb; cases hpb
  have np2 : ¬ c2.Fp ins.length p := fun h => by rw [hf2 p h] at pm; cases pm
  have nxp : x ≠ p := (ne_of_none p5 hx5).symm
  have nx1 : ¬ c1.Fp ins.length x := fun h => OW.net.full x h hx5
  have nx2 : ¬ c2.Fp ins.length x := fun h => by rw [hf2 x h] at hmx; cases hmx
  have dis : ∀ a, c1.Fp ins.length a → ¬ c2.Fp ins.length a := fun a h h2 => OW.net.full a h (fresh_back em (hf2 a h2))
  have st7 : ∀ a o, H5 a = some o → a ≠ p → H7 a = some o := fun a o h n => f7 a o (f6 a o (em _ _ h) (ne_of_none h hx5)) n
  have N16 : NetAt H6 ins.length c1 S := (OW.net.exx em).fr f6 (fun a ha z => nx1 (by have z : a = x := z; rw [← z]; exact ha)) fun a xs ha z => by
    have z : a = x := z
    rw [z, hmx] at ha
    cases ha
  have pT : ∀ a xs, H6 a = some (.tup xs) → ¬ IsA p a := fun a xs ha z => by
    have z : a = p := z
    rw [z, p6] at ha
    cases ha
  have N17 : NetAt H7 ins.length c1 S := N16.fr f7 (fun a ha z => np1 (by have z : a = p := z; rw [← z]; exact ha)) pT
  have N27 : NetAt H7 ins.length c2 S := NW.net.fr f7 (fun a ha z => np2 (by have z : a = p := z; rw [← z]; exact ha)) pT
  generalize hHs : (fun a => if a = p ∨ c1.Fp ins.length a ∨ c2.Fp ins.length a then none else H7 a : Hp) = Hs
  have put : ∀ a o, H7 a = some o → a ≠ p → ¬ c1.Fp ins.length a → ¬ c2.Fp ins.length a → Hs a = some o := fun a o h n1 n2 n3 => by
    rw [← hHs]
    show (if a = p ∨ c1.Fp ins.length a ∨ c2.Fp ins.length a then none else H7 a) = _
    rw [if_neg (fun z => z.elim n1 fun z => z.elim n2 n3)]
    exact h
  have hex : Ex Hs H7 := fun a o h => by
    rw [← hHs] at h
    have h : (if a = p ∨ c1.Fp ins.length a ∨ c2.Fp ins.length a then none else H7 a) = some o := h
    split at h
    · cases h
    · exact h
  have off : ∀ a, (a = p ∨ c1.Fp ins.length a ∨ c2.Fp ins.length a) → Hs a = none := fun a h => by
    rw [← hHs]
    exact if_pos h
  have s5 : ∀ a o, H5 a = some o → a ≠ p → ¬ c1.Fp ins.length a → Hs a = some o := fun a o h n1 n2 => put a o (st7 a o h n1) n1 n2 fun h2 => by
    have := hf2 a h2
    rw [em _ _ h] at this
    cases this
  have sb : ∀ a o, Hb a = some o → a ≠ p → Hs a = some o := fun a o h n => s5 a o (e5 _ _ h) n fun h1 => by
    rw [hf1 a h1] at h
    cases h
  have s1 : ∀ a o, Hs1 a = some o → a ≠ p → Hs a = some o := fun a o h n => s5 a o (OW.ex _ _ h) n fun h1 => by
    rw [OW.free a h1] at h
    cases h
  have s6 : ∀ a o, H6 a = some o → (∀ xs, o ≠ .lst xs) → (∀ kvs, o ≠ .dT kvs) → Hs a = some o := fun a o h n1 n2 => by
    have np : a ≠ p := fun z => by
      rw [z, p6] at h
      exact n1 _ (Option.some.inj h).symm
    refine put a o (f7 a o h np) np (fun h1 => ?_) fun h2 => ?_
    · rcases N16.kind h1 with ⟨xs, z⟩ | ⟨kvs, z⟩
      · rw [h] at z; exact n1 _ (Option.some.inj z)
      · rw [h] at z; exact n2 _ (Option.some.inj z)
    · rcases NW.net.kind h2 with ⟨xs, z⟩ | ⟨kvs, z⟩
      · rw [h] at z; exact n1 _ (Option.some.inj z)
      · rw [h] at z; exact n2 _ (Option.some.inj z)
  have ntp : nt ≠ p := fun z => by
    have h := OW.so.nt
    rw [z, p5] at h
    have h := congrArg List.length (HO.lst.inj (Option.some.inj h))
    simp at h
  have shp : sh ≠ p := fun z => by
    have h : H5 sh = _ := OW.so.sh
    rw [z, p5] at h
    cases h
  have iap : ia ≠ p := fun z => by
    have h := OW.so.i
    rw [z, p5] at h
    cases h
  have cap : ca ≠ p := fun z => by rw [z, P7.fr] at q2; cases q2
  obtain ⟨dy, hst⟩ := NW.so.st
  obtain ⟨dg, hg⟩ := ni.ex NW.ex
  have nwp : wl ≠ p := (ne_of_none p6 hwl0).symm
  refine ⟨Hs, ⟨⟨hex, off p (.inl rfl), ca, ns, i0, x0, y0, z0, q1, sb _ _ (hxb _ _ q2) cap, q3⟩, ⟨hex, ⟨s1 _ _ OW.st.nt ntp, s1 _ _ OW.st.sh shp, s1 _ _ OW.st.i iap, OW.st.ok, OW.st.n3, OW.st.n5, OW.st.io⟩, fun a h => off a (.inr (.inl h)), N17⟩,
    ⟨hex, ⟨⟨dy, s6 _ _ hst (fun _ => fun z => nomatch z) fun _ => fun z => nomatch z⟩, hf.upx fun b o h n1 n2 => sb b o h fun z => by rw [z, hpb] at h; exact n2 _ _ (Option.some.inj h).symm, s1 _ _ OW.st.i iap, OW.st.ok, OW.st.n3, OW.st.n5, OW.st.io⟩, fun a h => off a (.inr (.inr h)), N27⟩, ⟨dg, s6 _ _ hg (fun _ => fun z => nomatch z) fun _ => fun z => nomatch z⟩, np1, np2, dis, I⟩, ?_⟩
  exact put wl _ hwl nwp (fun h => N16.full wl h hwl0) fun h => NW.net.full wl h hwl0
def sp_law (W : Wd) : GS := fun vs H Q => ∃ (a : Addr) (ns : List Int), vs = [.ref a] ∧ SqL W.K H a (ns.map V.int) ∧ ns.length ≤ 63 ∧ H (tP W) = some (.tbl #[]) ∧ ∀ H', Q (.bl true) H'
theorem sw_ms {l : List (Option Nat)} {n : Nat} (hn : n ≤ 5) (h : ∀ m ∈ l, ∀ o, m = some o → o < n) (hl : l.length ≤ 12) : Sw (12 * (2000 + 2) + 3) 1 (dMs l) :=
  sw_tup (B := 2000) (m := 0) (n := 12) (fun d hd => by
    obtain ⟨m, hm, rfl⟩ := List.mem_map.1 hd
    cases m with
    | none => exact sw_none
    | some o =>
      have := h _ hm o rfl
      exact sw_small (by show ((o : Nat) : Int).natAbs < 2 ^ 64; omega)) (by simpa using hl)
theorem missD {H : Hp} {n : Nat} {ms : Nat → List (Option Nat)} {v : V} (h : (MissP n ms).p v H) : IsD H v (.tuple ((List.range n).map fun me => dMs (ms me))) := by
  obtain ⟨a, vs, rfl, a1, a2, a3⟩ := h
  refine .tup a1 (isDs_of (by simp [a2]) fun i w d hw hd => ?_)
  have hi : i < n := by
    have := (List.getElem?_eq_some_iff.1 hw).1
    omega
  rw [map_get hi] at hd
  cases hd
  obtain ⟨b, rfl, hb⟩ := a3 i w hw
  exact isD_ms hb
theorem q_parP {σ : L2.St} {H : Hp} {tz : TS} {D : Ends} {i j : Nat} {ta tb : TE} {M1 M2 : MP} (h1 : EvP ta σ H M1.p) (h2 : EvP tb σ H M2.p) (k : ∀ x y H1, Ex H H1 → M1.p x H1 → M2.p y H1 → tz D ((σ.set i (some x)).set j (some y)) H1) : tSeq (tPar i j (tCons ta (tCons tb tNil))) tz D σ H :=
  h1 H (Ex.refl H) _ fun x H1 e1 p1 => h2 H1 e1 _ fun y H2 e2 p2 => ⟨x, y, rfl, k x y H2 (e1.trans e2) (M1.up (Ex.frT e2) p1) p2⟩
section
variable {W : Wd} {Hs H H' : Hp} {p nt g st fo ia sh : Addr} {c1 c2 : Re} {s : Sh} {ins : List Int} {S : NS} {σ : L2.St} {ta : TE}
theorem LW.missed (T : TopW W) (L : LW W Hs H p nt g st fo ia sh c1 c2 s ins S) (h : Ev ta σ H (.ref g)) : EvP (tMtd (He.ga W.K "Net") "missed" (sp_Net_missed W) ta tNil) σ H (MissP ins.length S.miss).p :=
  ep_mtd0 T h L.nI (by decide +kernel) fun H1 e Q k => ⟨g, st, c2, fo, ia, s, ins, S, rfl, L.nI.ex e, L.net.so.ex e, L.net.net.exx e, k⟩
theorem LW.told (T : TopW W) (L : LW W Hs H p nt g st fo ia sh c1 c2 s ins S) (h : Ev ta σ H (.ref g)) : EvP (tMtd (He.ga W.K "Net") "answers" (sp_Net_answers W) ta tNil) σ H (ToldP ins.length (answers s S)).p :=
  ep_mtd0 T h L.nI (by decide +kernel) fun H1 e Q k => ⟨g, st, c2, fo, ia, s, ins, S, rfl, L.nI.ex e, L.net.so.ex e, L.net.net.exx e, L.inv, k⟩
end
theorem lk_event {v : V} : List.lookup ("event" : Str) [(("kept_state" : Str), v)] = none := lk_miss (fs := []) (show ¬ ("event" : Str) = "kept_state" by decide +kernel) rfl
theorem LW.showy {W : Wd} {Hs H : Hp} {p nt g st fo ia sh : Addr} {c1 c2 : Re} {s : Sh} {ins : List Int} {S : NS} (L : LW W Hs H p nt g st fo ia sh c1 c2 s ins S) (hr : s.rounds ≤ 12) : KnM.Showy (.tuple ((List.range ins.length).map fun me => dMs (S.miss me))) :=
  (sw_tup (B := 12 * (2000 + 2) + 3) (m := 1) (n := 5) (fun d hd => by
    obtain ⟨me, hme, rfl⟩ := List.mem_map.1 hd
    have hme := List.mem_range.1 hme
    have := L.inv.done me hme
    exact sw_ms L.own.st.n5 (fun m hm o e => (L.inv.miss me m hme hm o e).1) (by show S.done me ≤ 12; omega)) (by simpa using L.own.st.n5)).y (by decide) (by decide)
theorem LW.reprs {W : Wd} {Hs H : Hp} {p nt g st fo ia sh : Addr} {c1 c2 : Re} {s : Sh} {ins : List Int} {S : NS} {σ : L2.St} {ma : V} (L : LW W Hs H p nt g st fo ia sh c1 c2 s ins S) (hr : s.rounds ≤ 12) (h7 : σ[7]? = some (some (.ref nt))) (h15 : σ[15]? = some (some ma)) (pm : (MissP ins.length S.miss).p ma H)
    (h7w : (wipe σ [18])[7]? = some (some (.ref nt))) (hw : ∀ x, wipe ((wipe σ [18]).set 18 (some x)) [18] = wipe σ [18]) (hv : ∀ x, ((wipe σ [18]).set 18 (some x))[18]? = some (some x)) :
    EvT (tTest (tOp rNe (tCB (KnM.rRepr W.K) (tCons (tVar 15) tNil)) (tCB (KnM.rRepr W.K) (tCons (tCB (rTupS W.K) (tCons (tLc (iList W.K (tOp (rIxL W.K) (tVar 7) (tC (.int 5)))) (gName 18) tYes (tCB (rTupS W.K) (tCons (tVar 18) tNil)) [18]) tNil)) tNil)))) σ H false := by
  refine et_test (ev_is (ev_op (ev_reprP (EvP.imp (R := fun v H => IsD H v _) (ep_is (P := (MissP ins.length S.miss).p) (ev_var h15) fun H' e' => (MissP _ _).up (Ex.frT e') pm) fun v H' _ h => missD h) (L.showy hr))
    (ev_reprP (EvP.imp (R := fun v H => IsD H v _) (ep_tupOf (n := ins.length) (Pi := fun me => MP.tupX ((S.miss me).map oV)) ?_) fun v H' _ h => missD h) (L.showy hr)) (rv_ne rfl)) (congrArg V.bl (by simp)))
  have z := ep_lcL (K := W.K) (vs := [18]) (j := 18) (σ := σ) (H := H) (a := c1.missed) (xs := (List.range ins.length).map fun i => .ref (c1.mi i)) (tl := tOp (rIxL W.K) (tVar 7) (tC (.int 5))) (te := tCB (rTupS W.K) (tCons (tVar 18) tNil)) (fun me => MP.tupX ((S.miss me).map oV)) (ev_own (j := 5) L.own.so (ev_var h7) rfl) (sq_of L.own.net.missed) (by simp; have := L.own.st.n5; omega) hw fun i x hx => ?_
  · rw [List.length_map, List.length_range] at z
    exact z
  · have hi : i < ins.length := by
      have := (List.getElem?_eq_some_iff.1 hx).1
      simpa using this
    rw [map_get hi] at hx
    cases hx
    exact ep_U (eu_tupL (ev_var (hv _)) (sq_of (L.own.net.mi i hi)))
theorem ev_lgt {W : Wd} {σ : L2.St} {H : Hp} {ea ma : V} {n : Nat} {m0 m1 : Nat → List (Option Nat)} (h10 : σ[10]? = some (some ea)) (h15 : σ[15]? = some (some ma)) (pe : (MissP n m0).p ea H) (pm : (MissP n m1).p ma H) (hx : ∀ me, me < n → ∃ r, m1 me = m0 me ++ r) (n5 : n ≤ 5) :
    Ev (tCal (sp__law_lengthened W) (tCons (tVar 10) (tCons (tVar 15) tNil))) σ H (.bl true) := by
  obtain ⟨a, _, rfl, _⟩ := id pe
  obtain ⟨b, _, rfl, _⟩ := id pm
  exact ev_calR (vs := [.ref a, .ref b]) (ea_cons (ev_var h10) (ea_cons (ev_var h15) ea_nil)) fun H1 e Q k => ⟨a, b, n, m0, m1, rfl, (MissP n m0).up (Ex.frT e) pe, (MissP n m1).up (Ex.frT e) pm, hx, n5, k⟩
theorem ev_sts {W : Wd} {σ : L2.St} {H : Hp} {ea ta : V} {n : Nat} {a0 a1 : Nat → Option Int} (h11 : σ[11]? = some (some ea)) (h16 : σ[16]? = some (some ta)) (pe : (ToldP n a0).p ea H) (pt : (ToldP n a1).p ta H) (h : ∀ me, me < n → a0 me ≠ none → a1 me = a0 me) (hs : ∀ me i, me < n → a0 me = some i → i.natAbs < 2 ^ 64) (n5 : n ≤ 5) :
    Ev (tCal (sp__law_stays W) (tCons (tVar 11) (tCons (tVar 16) tNil))) σ H (.bl true) := by
  obtain ⟨a, _, rfl, _⟩ := id pe
  obtain ⟨b, _, rfl, _⟩ := id pt
  exact ev_calR (vs := [.ref a, .ref b]) (ea_cons (ev_var h11) (ea_cons (ev_var h16) ea_nil)) fun H1 e Q k => ⟨a, b, n, a0, a1, rfl, (ToldP n a0).up (Ex.frT e) pe, (ToldP n a1).up (Ex.frT e) pt, h, hs, n5, k⟩
theorem LW.small {W : Wd} {Hs H : Hp} {p nt g st fo ia sh : Addr} {c1 c2 : Re} {s : Sh} {ins : List Int} {S : NS} (L : LW W Hs H p nt g st fo ia sh c1 c2 s ins S) {me : Nat} {i : Int} (hm : me < ins.length) (h : answers s S me = some i) : i.natAbs < 2 ^ 64 := by
  have n5 := L.own.st.n5
  have hd := L.inv.done me hm
  unfold answers at h
  split at h
  · exact ans_small L.own.st.ok.k (fun z => Nat.le_trans hd (L.own.st.ok.k1 z)) (by omega) (L.inv.mem me _ hm (Nat.le_refl _)) h
  · cases h
theorem q_drop {te : TE} {tz : TS} {D : Ends} {σ : L2.St} {H : Hp} (h : te σ H fun _ H1 => tz D σ H1) : tSeq (tDrop te) tz D σ H := h
theorem LW.own2 {W : Wd} {Hs H : Hp} {p nt g st fo ia sh : Addr} {c1 c2 : Re} {s : Sh} {ins : List Int} {S : NS} {H1 : Hp} {d2 : Re} {S' : NS} (L : LW W Hs H p nt g st fo ia sh c1 c2 s ins S) (g2 : Go ins.length c2 H d2 H1 S') : OwnW Hs H1 nt c1 ia sh s ins S :=
  ⟨fun a o h => g2.fr a o (L.own.ex a o h) (fun z => by rw [L.net.free a z] at h; cases h), L.own.st, L.own.free, L.own.net.fr g2.fr L.dis fun a xs ha h => L.net.net.noT a xs ha h⟩
theorem q_forDraw {W : Wd} {Hs H : Hp} {p : Addr} {σ : L2.St} {i j : Nat} {m : Int} {tu tz : TS} {D : Ends} (hv : σ[i]? = some (some (.ref p))) (P : PotAt Hs H p) (hm : 0 < m) (hm2 : m < 100000) (Pv : Nat → L2.St → Hp → Prop) (h0 : ∀ H1, Fr (IsA p) H H1 → PotAt Hs H1 p → Pv 0 σ H1)
    (hs : ∀ (i : Nat) σ' H', (i : Int) < m → Pv i σ' H' → tu { D with nx := Pv (i + 1), ct := Pv (i + 1), bk := tz D } (σ'.set j (some (.int (i : Int)))) H') (hd : ∀ i σ' H', Pv i σ' H' → tz D σ' H') :
    tSeq (tFor (iRng1 (tCons (tCal (sp__law_draw W) (tCons (tVar i) (tCons (tC (.int m)) tNil))) tNil)) (gName j) tu) tz D σ H := by
  show tCal (sp__law_draw W) (tCons (tVar i) (tCons (tC (.int m)) tNil)) σ H _
  refine t_draw (te := tC (.int m)) hv P ev_c hm (by omega) fun r H1 f1 P1 r0 r1 => ⟨r, rfl, by omega, by omega, for_range (lo := 0) (n := r.toNat) Pv (h0 H1 f1 P1) (fun i σ' H' hi p => ?_) fun σ' H' p => hd _ σ' H' p⟩
  have e0 : (0 : Int) + (i : Int) = (i : Int) := Int.zero_add _
  show tu { D with nx := Pv (i + 1), ct := Pv (i + 1), bk := tz D } (σ'.set j (some (.int ((0 : Int) + (i : Int))))) H'
  rw [e0]
  exact hs i σ' H' (by omega) p
abbrev N_law : List Str := ["_law_script", "_law_pot_here", "_law_many", "_law_rounds", "_law_shape_here", "_law_inputs_here", "_law_folk_here", "_law_net_here", "_law_given", "_law_words", "_law_elder", "_law_early", "_law_k", "_law_word", "_law_number", "_law_missed", "_law_told_here", "_law_turn", "_law_one"]
theorem sc_law : FnScope N_law ["_law_script"] (defScope s_law) := ⟨rfl, rfl, rfl, by decide +kernel, rfl, by decide +kernel, by decide +kernel⟩
theorem C_law {W : Wd} (T : TopW W) (TB : LamX.TabB W.base W.mg (tC0 W) (tP W)) : Cal W "law" 10 (sp_law W) := by
  have C_Net := C_Net T
  have C_Net_answers := C_Net_answers T
  have C_Net_event := C_Net_event T
  have C_Net_missed := C_Net_missed T
  have C__law_any := C__law_any T
  have C__law_do := C__law_do T
  have C__law_draw := C__law_draw T
  have C__law_event := C__law_event T
  have C__law_filled := C__law_filled T
  have C__law_fits := C__law_fits T
  have C__law_folk := C__law_folk T TB
  have C__law_inputs := C__law_inputs T
  have C__law_lengthened := C__law_lengthened T
  have C__law_net := C__law_net T
  have C__law_pot := C__law_pot T
  have C__law_shape := C__law_shape T
  have C__law_stays := C__law_stays T
  refine cal_mk T (d := d_law) (ps := ["_law_script"]) 64 56 rfl rfl rfl rfl rfl fun f fd F => ⟨fng_of F sc_law (fun vs H Q h => ?_) (fun cdv A outer s H vs Q hr hg h => ?_), F.bindsN fun _ _ _ _ _ _ us hl => match us, hl with | [_], _ => rfl⟩
  · obtain ⟨a, ns, h0, hS, hn63, htb, q⟩ := h
    first | rfl | (subst h0; rfl)
  · have hu := hu_of hr
    have nd := sc_law.nd
    obtain ⟨a, ns, h0, hS, hn63, htb, q⟩ := h
    try subst h0
    refine ⟨_, (pss_cons (ps_set (i := 1) nd rfl (Or.inl rfl) (pe_cal C__law_pot rfl hr (by decide) hg rfl (pa_cons (pv 0) pa_nil))) (pss_cons (ps_par (i := 2) (j := 3) rfl nd rfl rfl (by decide) rfl rfl (pa_cons (pe_op op_add pe_int (pe_cal C__law_draw rfl hr (by decide) hg rfl (pa_cons (pv 1) (pa_cons pe_int pa_nil)))) (pa_cons (pe_cal C__law_any rfl hr (by decide) hg rfl (pa_cons (pv 1) (pa_cons (pe_lst (pa_cons pe_int (pa_cons pe_int (pa_cons pe_int (pa_cons pe_int (pa_cons pe_int (pa_cons pe_int (pa_cons pe_int pa_nil)))))))) pa_nil))) pa_nil)) rfl) (pss_cons (ps_set (i := 4) nd rfl (Or.inl rfl) (pe_cal C__law_shape rfl hr (by decide) hg rfl (pa_cons (pv 1) (pa_cons (pv 3) pa_nil)))) (pss_cons (ps_set (i := 5) nd rfl (Or.inl rfl) (pe_cal C__law_inputs rfl hr (by decide) hg rfl (pa_cons (pv 1) (pa_cons (pv 2) pa_nil)))) (pss_cons (ps_set (i := 6) nd rfl (Or.inl rfl) (pe_cal C__law_folk rfl hr (by decide) hg rfl (pa_cons (pv 4) pa_nil))) (pss_cons (ps_par (i := 7) (j := 8) rfl nd rfl rfl (by decide) rfl rfl (pa_cons (pe_cal C__law_net rfl hr (by decide) hg rfl (pa_cons (pv 4) (pa_cons (pv 5) pa_nil))) (pa_cons (pe_mkg C_Net rfl hr (by decide) hg rfl (pa_cons (pv 6) (pa_cons (pv 5) pa_nil))) pa_nil)) rfl) (pss_cons (ps_set (i := 9) nd rfl (Or.inl rfl) (pe_op op_cat (pe_op op_cat (pe_op op_rep (pe_lst (pa_cons pe_str pa_nil)) (pe_op op_add pe_int (pe_cal C__law_draw rfl hr (by decide) hg rfl (pa_cons (pv 1) (pa_cons pe_int pa_nil))))) (pe_op op_rep (pe_lst (pa_cons pe_str pa_nil)) pe_int)) (pe_lst (pa_cons pe_str (pa_cons pe_str (pa_cons pe_str (pa_cons pe_str (pa_cons pe_str pa_nil)))))))) (pss_cons (ps_par (i := 10) (j := 11) rfl nd rfl rfl (by decide) rfl rfl (pa_cons (pe_mtd0 (pv 8) T.cls_Net C_Net_missed rfl hr (by decide) hg) (pa_cons (pe_mtd0 (pv 8) T.cls_Net C_Net_answers rfl hr (by decide) hg) pa_nil)) rfl) (pss_cons (ps_for PassesOwn.never rfl (pi_range1 rfl T.free_range (pa_cons (pe_cal C__law_draw rfl hr (by decide) hg rfl (pa_cons (pv 1) (pa_cons pe_int pa_nil))) pa_nil)) (pg_name (i := 12) nd rfl (Or.inl rfl)) (pss_cons (ps_asg (pe_cal C__law_event rfl hr (by decide) hg rfl (pa_cons (pv 1) (pa_cons (pv 7) (pa_cons (pv 9) pa_nil)))) (pg_tupk (K := W.K) (n := 2) rfl rfl (pgs_cons (pg_name (i := 13) nd rfl (Or.inl rfl)) (pgs_cons (pg_name (i := 14) nd rfl (Or.inl rfl)) pgs_nil)) rfl)) (pss_cons (ps_expr (pe_mtd (pv 8) T.cls_Net C_Net_event rfl hr (by decide) hg (pa_cons (pe_tup (pa_cons (pv 13) (pa_cons (pv 14) pa_nil))) pa_nil))) (pss_cons (ps_expr (pe_cal C__law_do rfl hr (by decide) hg rfl (pa_cons (pv 7) (pa_cons (pv 13) (pa_cons (pv 14) pa_nil))))) (pss_cons (ps_par (i := 15) (j := 16) rfl nd rfl rfl (by decide) rfl rfl (pa_cons (pe_mtd0 (pv 8) T.cls_Net C_Net_missed rfl hr (by decide) hg) (pa_cons (pe_mtd0 (pv 8) T.cls_Net C_Net_answers rfl hr (by decide) hg) pa_nil)) rfl) (pss_cons (ps_if (pt_cmpR op_ne (pe_callB (cr_reprk (K := W.K) rfl hg hr) rfl T.free_repr boot_repr (pa_cons (pv 15) pa_nil)) (pe_callB (cr_reprk (K := W.K) rfl hg hr) rfl T.free_repr boot_repr (pa_cons (pe_callTy (cr_tupk (K := W.K) rfl) rfl T.free_tuple boot_tuple (pa_cons (pe_lc (own := [("_law_one", 18)]) rfl nd (pi_listk (K := W.K) rfl (pe_ixlk (K := W.K) rfl (pv 7) pe_int (fun _ _ => rfl))) (blkOk_by (own := [("_law_one", 18)]) (N := N_law) (sc := defScope s_law) (by decide +kernel)) (fun _ _ _ _ _ => (pg_name (i := 18) nd rfl (Or.inl rfl))) (fun _ _ _ _ _ => pts_nil) (fun _ _ _ _ _ => (pe_callTy (cr_tupk (K := W.K) rfl) rfl T.free_tuple boot_tuple (pa_cons (pv 18) pa_nil)))) pa_nil)) pa_nil)) (nomark _)) (pss_one (ps_ret pe_bl)) pss_nil) (pss_cons (ps_if (PW.pt (pw_or (pt_not (pt_val (pe_cal C__law_lengthened rfl hr (by decide) hg rfl (pa_cons (pv 10) (pa_cons (pv 15) pa_nil))))) (pw_or1 (pt_not (pt_val (pe_cal C__law_stays rfl hr (by decide) hg rfl (pa_cons (pv 11) (pa_cons (pv 16) pa_nil)))))))) (pss_one (ps_ret pe_bl)) pss_nil) (pss_cons (ps_par (i := 10) (j := 11) rfl nd rfl rfl (by decide) rfl rfl (pa_cons (pv 15) (pa_cons (pv 16) pa_nil)) rfl) (pss_one (ps_if (pt_cmpR op_eq (pe_cal C__law_draw rfl hr (by decide) hg rfl (pa_cons (pv 1) (pa_cons pe_int pa_nil))) pe_int (nomark _)) (pss_one (ps_if (pt_not (pt_val (pe_cal C__law_fits rfl hr (by decide) hg rfl (pa_cons (pv 4) (pa_cons (pv 5) (pa_cons (pv 6) (pa_cons (pv 8) (pa_cons (pe_cal C__law_filled rfl hr (by decide) hg rfl (pa_cons (pv 1) (pa_cons (pv 15) (pa_cons (pv 3) pa_nil)))) pa_nil)))))))) (pss_one (ps_ret pe_bl)) pss_nil)) pss_nil)))))))))) (pss_cons (ps_for PassesOwn.never rfl (pi_range1 rfl T.free_range (pa_cons pe_int pa_nil)) (pg_name (i := 17) nd rfl (Or.inl rfl)) (pss_one (ps_if (pt_not (pt_val (pe_cal C__law_fits rfl hr (by decide) hg rfl (pa_cons (pv 4) (pa_cons (pv 5) (pa_cons (pv 6) (pa_cons (pv 8) (pa_cons (pe_cal C__law_filled rfl hr (by decide) hg rfl (pa_cons (pv 1) (pa_cons (pe_mtd0 (pv 8) T.cls_Net C_Net_missed rfl hr (by decide) hg) (pa_cons (pv 3) pa_nil)))) pa_nil)))))))) (pss_one (ps_ret pe_bl)) pss_nil))) (pss_one (ps_ret pe_bl)))))))))))), ?_⟩
    -- the pot
    try dsimp only
    refine q_of ?_
    refine ⟨_, rfl, a, ns, rfl, hS, hn63, fun p ca ms H1 hp0 e1 hp1 hca1 hms => ?_⟩
    have cap : ca ≠ p := fun z => by
      rw [z, hp1] at hca1
      cases ms with
      | nil => cases hca1
      | cons v ms => cases hca1
    have tb1 := e1 _ _ htb
    generalize hHs : (fun b => if b = ca then some (.lst (ms.map V.int)) else none : Hp) = Hx
    have hxca : Hx ca = some (.lst (ms.map V.int)) := by rw [← hHs]; exact if_pos rfl
    have hxo : ∀ b o, Hx b = some o → b = ca ∧ o = .lst (ms.map V.int) := fun b o h => by
      rw [← hHs] at h
      have h : (if b = ca then some (.lst (ms.map V.int)) else none) = some o := h
      split at h
      · rename_i z
        exact ⟨z, (Option.some.inj h).symm⟩
      · cases h
    have P1 : PotAt Hx H1 p := ⟨fun b o h => by obtain ⟨rfl, rfl⟩ := hxo b o h; exact hca1, by rw [← hHs]; exact if_neg (fun z => cap z.symm), ca, ms, 0, 0, 1 + (ms.length : Nat), 0, hp1, hxca, hms, by decide, by decide, by omega, by decide⟩
    have ntp : tP W ≠ p := fun z => by rw [z, hp1] at tb1; cases tb1
    -- how many, rounds
    refine t_draw (te := tC (.int 3)) rfl P1 ev_c (by decide) (by decide) fun r H2 f2 P2 r0 r1 => ⟨3, r, rfl, rfl, t_any rfl P2 (show EvA _ _ _ [V.int 0, V.int 1, V.int 2, V.int 2, V.int 3, V.int 5, V.int 12] from by walk_at "ev") (by decide) (by decide) fun v H3 f3 P3 hv => ⟨_, _, rfl, ?_⟩⟩
    obtain ⟨n, hn⟩ : ∃ n : Nat, 3 + r = (n : Int) := ⟨(3 + r).toNat, by omega⟩
    have n3 : 3 ≤ n := by omega
    have n5 : n ≤ 5 := by omega
    obtain ⟨rd, rfl, hrd⟩ : ∃ rd : Nat, v = .int rd ∧ rd ≤ 12 := by
      simp at hv
      rcases hv with rfl | rfl | rfl | rfl | rfl | rfl
      · exact ⟨0, rfl, by decide⟩
      · exact ⟨1, rfl, by decide⟩
      · exact ⟨2, rfl, by decide⟩
      · exact ⟨3, rfl, by decide⟩
      · exact ⟨5, rfl, by decide⟩
      · exact ⟨12, rfl, by decide⟩
    have e3r : V.int (3 + r) = V.int (n : Nat) := by rw [hn]
    -- shape, inputs
    try dsimp only
    refine q_of ?_
    refine ⟨_, rfl, _, rfl, Hx, p, rd, rfl, P3, hrd, fun sh s H4 hsh0 f4 P4 hsh sok hsr => ?_⟩
    try dsimp only
    refine q_of ?_
    refine ⟨_, rfl, _, rfl, Hx, p, n, by show [V.ref p, V.int (3 + r)] = _; rw [e3r], P4, n5, fun ia ins H5 hia0 f5 P5 hia hil hib => ?_⟩
    have shp : sh ≠ p := P3.ne (by
      cases z : H3 sh with
      | none => rfl
      | some o => exact absurd hsh0 (by rw [z]; exact fun z => nomatch z))
    have hsh5 : ShapeAt H5 sh s := f5 _ _ hsh shp
    have tb5 := f5 _ _ (f4 _ _ (f3 _ _ (f2 _ _ tb1 ntp) ntp) ntp) ntp
    subst hil
    have io : ∀ i, i < ins.length → (ins.getD i 0).natAbs < 2 ^ 64 := fun i hi => by
      rw [List.getD_eq_getElem?_getD]
      simp only [List.getElem?_eq_getElem hi]
      exact hib _ (List.getElem_mem hi)
    -- the folk
    try dsimp only
    refine q_of ?_
    refine ⟨_, rfl, sh, s, rfl, hsh5, by rw [hsr]; omega, fun t ht => by rw [List.mem_singleton.1 ht]; exact LamX.TabS.nil tb5, fun fo H6 x6 hf => ?_⟩
    obtain ⟨ca', ns', i0, x0, y0, z0, g1, g2, g3⟩ := P5.at_
    have nn : ∀ {xs : List V} (ps : Array Value), HO.lst xs ≠ .tbl ps := fun _ z => nomatch z
    have P6 : PotAt Hx H6 p := ⟨fun b o h => by obtain ⟨rfl, rfl⟩ := hxo b o h; exact x6 _ _ (P5.ex _ _ h) nn, P5.fr, ca', ns', i0, x0, y0, z0, x6 _ _ g1 nn, g2, g3⟩
    have hp6 := x6 _ _ g1 nn
    have hsh6 : ShapeAt H6 sh s := x6 _ _ hsh5 nn
    have hia6 := x6 _ _ hia fun _ z => nomatch z
    -- both nets
    refine ⟨_, rfl, _, rfl, sh, ia, s, ins, rfl, hsh6, hia6, sok, n3, n5, io, fun H7 nt c1 Hs1 e7 es1 hf1 OW => ?_⟩
    refine ⟨_, rfl, _, rfl, fun x dx hx hdx hne => ?_⟩
    have ed : Ex H7 (upd H7 dx (.own x)) := Ex.new hdx
    have hx2 : upd H7 dx (.own x) x = none := (upd_ne hne.symm).trans hx
    have em : Ex H7 (upd (upd H7 dx (.own x)) x (.ins (He.ga W.K "Net") dx [])) := ed.trans (Ex.new hx2)
    have hmx : upd (upd H7 dx (.own x)) x (.ins (He.ga W.K "Net") dx []) x = some (.ins (cN W) dx []) := upd_same
    generalize upd (upd H7 dx (.own x)) x (.ins (He.ga W.K "Net") dx []) = Hm at em hmx ⊢
    refine ⟨x, fo, ia, dx, s, ins, rfl, hmx, hf.ex (e7.trans em), (e7.trans em) _ _ hia6, sok, n3, n5, io, fun H8 st c2 Hs2 f8 fs8 ni hf2 NW => ⟨rfl, ⟨_, _, rfl, ?_⟩⟩⟩
    have hp8 := f8 _ _ (em _ _ (e7 _ _ hp6)) (ne_of_none (e7 _ _ hp6) hx)
    have P8 : PotAt Hx H8 p := ⟨fun b o h => f8 _ _ (em _ _ (e7 _ _ (P6.ex _ _ h))) (ne_of_none (e7 _ _ (P6.ex _ _ h)) hx), P5.fr, ca', ns', i0, x0, y0, z0, hp8, g2, g3⟩
    -- the words
    try dsimp only
    refine q_of ?_
    refine t_words rfl P8 fun wl ws H9 hwl0 f9 P9 hwl hw0 hw1 hws => ?_
    have I0 : InvS s ins.length ins (begS s ins) := beg_inv (by omega) n5 io ins.length (Nat.le_refl _)
    obtain ⟨Hs, L, hwls⟩ := lw_make P9 (fun b o h => P6.ex b o h) hp6 e7 OW hf1 hx em hmx f8 ni hf2 NW f9 hwl hwl0 hf I0
    try dsimp only
    refine q_parP (L.missed T (ev_var rfl)) (L.told T (ev_var rfl)) fun ea ta H10 e10 pe pt => ?_
    have L10 := L.exx e10
    have t0 : (begS s ins).t = 0 := (begUp_same s (S0 (dBeg s ins)) ins.length ins.length).2
    refine q_forDraw rfl L10.pot (by decide) (by decide) (fun t σ' H' => ∃ (c1 c2 : Re) (S : NS) (ea ta : V) (y1 y2 y3 y4 y5 y6 y7 : Option V), σ' = [some (.ref a), some (.ref p), some (.int (3 + r)), some (.int (rd : Nat)), some (.ref sh), some (.ref ia), some (.ref fo), some (.ref nt), some (.ref x), some (.ref wl), some ea, some ta, y1, y2, y3, y4, y5, y6, y7] ∧ LW W Hs H' p nt x st fo ia sh c1 c2 s ins S ∧ S.t ≤ t ∧ (MissP ins.length S.miss).p ea H' ∧ (ToldP ins.length (answers s S)).p ta H') (fun H11 f11 P11 => ⟨c1, c2, begS s ins, ea, ta, none, none, none, none, none, none, none, rfl, L10.draw f11 P11, by omega, ?_, ?_⟩) ?_ ?_
    · exact (MissP ins.length (begS s ins).miss).up (f11.frT L10.pot.noT) pe
    · exact (ToldP ins.length (answers s (begS s ins))).up (f11.frT L10.pot.noT) pt
    · clear L10 L pe pt OW NW
      clear hf2 hf1
      clear c1 c2
      rintro t σ' H11 ht ⟨c1, c2, S, ea, ta, y1, y2, y3, y4, y5, y6, y7, rfl, L, hSt, pe, pt⟩
      have bl := L.inv.sz
      try dsimp only
      refine q_of ?_
      refine ⟨_, rfl, _, rfl, _, rfl, Hs, p, nt, wl, c1, ia, sh, s, ins, S, ws, rfl, L.pot, L.own, fun l hl => (L.inv.bag l hl).1, L.np1, hwls, hw0, hw1, hws, by omega, fun ev w k H12 f12 P12 hev hcan => ⟨ev, _, rfl, st_of hev, rfl, _, _, rfl, _, _, rfl, rfl, ?_⟩⟩
      have L1 := L.draw f12 P12
      try dsimp only
      refine q_drop ?_
      obtain ⟨dg, hg⟩ := L1.nI
      refine ⟨_, rfl, x, dg, _, rfl, hg, lk_event, _, rfl, _, rfl, by show 2 ≤ sizeLine; decide, fun t1 ht1 => ?_⟩
      have L2 := L1.exx (Ex.new (o := .tup [.str w.str, .int (k : Nat)]) ht1)
      refine ⟨Hs, x, st, t1, c2, fo, ia, s, ins, S, w, k, rfl, L2.nI, L2.net, L2.inv, upd_same, hcan, by omega, by omega, fun H13 d2 g2 => ?_⟩
      try dsimp only
      refine q_drop ?_
      refine ⟨_, rfl, _, rfl, _, rfl, Hs, nt, c1, ia, sh, s, ins, S, w, k, rfl, L2.own2 g2, L2.inv, hcan, by omega, by omega, fun H14 d1 g1 => ?_⟩
      have L3 := L2.both g2 g1 (inv_do L2.inv sok (by omega) n5 hcan)
      have fT : FrT H11 H14 := (f12.frT L.pot.noT).trans ((Ex.frT (Ex.new ht1)).trans ((g2.fr.frT L2.net.net.noT).trans (g1.fr.frT (L2.own2 g2).net.noT)))
      have pe3 := (MissP ins.length S.miss).up fT pe
      have pt3 := (ToldP ins.length (answers s S)).up fT pt
      try dsimp only
      refine q_parP (L3.missed T (ev_var rfl)) (L3.told T (ev_var rfl)) fun ma ta2 H15 e15 pm pt2 => ?_
      have L4 := L3.exx e15
      have hr12 : s.rounds ≤ 12 := by omega
      try dsimp only
      refine q_when (b := false) (L4.reprs hr12 rfl rfl pm rfl (fun _ => rfl) (fun _ => rfl)) (fun h => nomatch h) fun _ H16 e16 => ?_
      have L5 := L4.exx e16
      have pe5 := (MissP ins.length S.miss).up (Ex.frT e16) ((MissP ins.length S.miss).up (Ex.frT e15) pe3)
      have pt5 := (ToldP ins.length (answers s S)).up (Ex.frT e16) ((ToldP ins.length (answers s S)).up (Ex.frT e15) pt3)
      have pm5 := (MissP ins.length _).up (Ex.frT e16) pm
      have pn5 := (ToldP ins.length _).up (Ex.frT e16) pt2
      refine q_when (b := false) (et_or (a := false) (b := false) (et_not (et_B (ev_lgt rfl rfl pe5 pm5 (fun me _ => done_do me) n5))) fun _ => et_not (et_B (ev_sts rfl rfl pt5 pn5 (fun me hm hne => stays_do (L.inv.done me hm) hcan hne) (fun me i hm h => L.small hm h) n5))) (fun h => nomatch h) fun _ H17 e17 => ?_
      have L6 := L5.exx e17
      have pm6 := (MissP ins.length _).up (Ex.frT e17) pm5
      have pn6 := (ToldP ins.length _).up (Ex.frT e17) pn5
      try dsimp only
      refine q_par (ea_cons (ev_var rfl) (ea_cons (ev_var rfl) ea_nil)) fun H18 e18 => ?_
      have L7 := L6.exx e18
      have pm7 := (MissP ins.length _).up (Ex.frT e18) pm6
      have pn7 := (ToldP ins.length _).up (Ex.frT e18) pn6
      try dsimp only
      show tCal (sp__law_draw W) (tCons (tVar 1) (tCons (tC (.int 12)) tNil)) _ H18 _
      refine t_draw (te := tC (.int 12)) rfl L7.pot ev_c (by decide) (by decide) fun r0 H19 f19 P19 _ _ => ⟨rfl, _, rfl, ?_⟩
      have L8 := L7.draw f19 P19
      have pm8 := (MissP ins.length _).up (f19.frT L7.pot.noT) pm7
      have pn8 := (ToldP ins.length _).up (f19.frT L7.pot.noT) pn7
      generalize decide (V.int r0 = V.int 0) = bb
      cases bb with
      | true =>
        show tCal (sp__law_fits W) (tCons (tVar 4) (tCons (tVar 5) (tCons (tVar 6) (tCons (tVar 8) (tCons (tCal (sp__law_filled W) (tCons (tVar 1) (tCons (tVar 15) (tCons (tVar 3) tNil)))) tNil))))) _ H19 _
        refine t_fits ⟨rfl, by rw [hsr]; rfl, rfl, rfl, rfl, rfl⟩ L8 (ep_is (ev_var rfl) fun H' e' => (MissP ins.length _).up (Ex.frT e') pm8) fun H20 f20 L20 => ⟨true, rfl, ?_⟩
        show ite ((!true) = true) _ _
        rw [if_neg (show ¬ ((!true) = true) by decide)]
        exact ⟨_, _, _, _, _, _, _, _, _, _, _, _, rfl, L20, by show S.t + 1 ≤ t + 1; omega, (MissP ins.length _).up (f20.frT L8.pot.noT) pm8, (ToldP ins.length _).up (f20.frT L8.pot.noT) pn8⟩
      | false => exact ⟨_, _, _, _, _, _, _, _, _, _, _, _, rfl, L8, by show S.t + 1 ≤ t + 1; omega, pm8, pn8⟩
    -- the last two
    · clear L10 L pe pt OW NW
      clear hf2 hf1
      clear c1 c2
      rintro t σ' H11 ⟨c1, c2, S, ea, ta, y1, y2, y3, y4, y5, y6, y7, rfl, L, hSt, pe, pt⟩
      refine q_forR1 (n := 2) (ea_cons ev_c ea_nil) (by decide) (fun i σ' H' => ∃ z6 : Option V, σ' = [some (.ref a), some (.ref p), some (.int (3 + r)), some (.int (rd : Nat)), some (.ref sh), some (.ref ia), some (.ref fo), some (.ref nt), some (.ref x), some (.ref wl), some ea, some ta, y1, y2, y3, y4, y5, z6, y7] ∧ LW W Hs H' p nt x st fo ia sh c1 c2 s ins S) (fun H12 e12 => ⟨y6, rfl, L.exx e12⟩) ?_ ?_
      · rintro i σ' H12 hi ⟨z6, rfl, L1⟩
        show tCal (sp__law_fits W) (tCons (tVar 4) (tCons (tVar 5) (tCons (tVar 6) (tCons (tVar 8) (tCons (tCal (sp__law_filled W) (tCons (tVar 1) (tCons (tMtd (He.ga W.K "Net") "missed" (sp_Net_missed W) (tVar 8) tNil) (tCons (tVar 3) tNil)))) tNil))))) _ H12 _
        refine t_fits ⟨rfl, by rw [hsr]; rfl, rfl, rfl, rfl, rfl⟩ L1 (L1.missed T (ev_var rfl)) fun H13 f13 L13 => ⟨true, rfl, ?_⟩
        show ite ((!true) = true) _ _
        rw [if_neg (show ¬ ((!true) = true) by decide)]
        exact ⟨_, rfl, L13⟩
      · rintro σ' H12 ⟨z6, rfl, L1⟩
        exact q H12
end Kn

set_option Elab.async false
set_option linter.all false
set_option maxRecDepth 100000
set_option maxHeartbeats 4000000
/-! the end: the law's promise at the heap that the top leaves -/
namespace Kn
open PySem PySem.Spec PyProof.Rows L2 Evl
abbrev scO (vs : List Value) : Obj := { cls := .type "list", data := .seq vs.toArray }
abbrev emO : Obj := { cls := .none, data := .fields #[] }
open Classical in
/-- what is tracked at first: the folk's table, and the script if it is none of K -/
def endH (K : PySem.W.Frag) (a t : Addr) (vs : List Value) (ns : List Int) : Hp := fun b =>
  if b = t then some (.tbl #[]) else if b = a ∧ K.lookup a = none then some (.frz (scO vs) (.lst (ns.map V.int))) else none
theorem endH_t {K : PySem.W.Frag} {a t : Addr} {vs : List Value} {ns : List Int} : endH K a t vs ns t = some (.tbl #[]) := if_pos rfl
theorem endH_a {K : PySem.W.Frag} {a t : Addr} {vs : List Value} {ns : List Int} (h : a ≠ t) (k : K.lookup a = none) : endH K a t vs ns a = some (.frz (scO vs) (.lst (ns.map V.int))) := (if_neg h).trans (if_pos ⟨rfl, k⟩)
theorem endH_some {K : PySem.W.Frag} {a t b : Addr} {vs : List Value} {ns : List Int} {u : HO} (h : endH K a t vs ns b = some u) : (b = t ∧ u = .tbl #[]) ∨ (b = a ∧ K.lookup a = none ∧ u = .frz (scO vs) (.lst (ns.map V.int))) := by
  unfold endH at h
  split at h
  · rename_i e
    cases h
    exact .inl ⟨e, rfl⟩
  · split at h
    · rename_i e
      cases h
      exact .inr ⟨e.1, e.2, rfl⟩
    · cases h
theorem law_end {P : Program} {w : World} {K : PySem.W.Frag} {mg mb : Str → Option Value} {fa a c t : Addr} {s1 : Shared} {vs : List Value} {ns : List Int}
    (KX : K.In s1.heap) (hns : s1.heap.Ns mainGlobals mg) (hb : s1.heap.Ns builtinsNs mb) (hbb : ∀ x : Str, x ≠ "__name__" → mb x = bootBuiltins x) (hlim : s1.heap.NoLimit) (hg : s1.gens = #[])
    (ht : s1.heap.get? t = some emO) (nt : K.lookup t = none) (hd : PySem.W.codeHdIn K c t = true)
    (hbm : ∃ (m : Addr) (o : Obj), mg "__builtins__" = some (.ref m) ∧ m ≠ builtinsNs ∧ s1.heap.get? m = some o ∧ o.cls = .type "module" ∧ o.dict = some builtinsNs ∧ o.data = .plain)
    (ha : s1.heap.get? a = some (scO vs)) (hi : IntsAre vs ns) (hl : ns.length ≤ 63) (hf : mg "law" = some (.ref fa)) (htp : (He.cT K ("_law_folk", none)).2 = t)
    (F : ∀ base : Heap, K.In base → base.Ns mainGlobals mg → LamX.TabB base mg c t → Cal ⟨P, w, K, mg, base⟩ "law" 10 (sp_law ⟨P, w, K, mg, base⟩)) :
    codeAny (model P w) callerA (.call (.ref fa) ⟨[.ref a], []⟩) (fun r s' => r = .ok (.ret (.bool true)) ∧ OldK s1.heap s'.heap ∧ s'.os = s1.os ∧ AllBare s'.gens) s1 := by
  have aT : a ≠ t := fun z => by
    rw [z, ht] at ha
    cases ha
  have rv := vals_ints hi
  have sz : ns.length ≤ sizeLine := Nat.le_trans hl (by decide)
  obtain ⟨H, hH⟩ : ∃ H, H = endH K a t vs ns := ⟨_, rfl⟩
  have Ht : H t = some (.tbl #[]) := by rw [hH]; exact endH_t
  have Hs : ∀ {b : Addr} {u : HO}, H b = some u → (b = t ∧ u = .tbl #[]) ∨ (b = a ∧ K.lookup a = none ∧ u = .frz (scO vs) (.lst (ns.map V.int))) := fun {b u} h => by
    rw [hH] at h
    exact endH_some h
  have off : ∀ {b : Addr} {o : Obj}, s1.heap.get? b = some o → (∀ xs n, o.data ≠ .seq xs n) → (∀ xs, o.data ≠ .fields xs) → (hidT s1.heap H).get? b = some o := fun {b o} e h1 h2 => hidT_get e (by
    cases q : H b with
    | none => rfl
    | some u =>
      rcases Hs q with ⟨z, _⟩ | ⟨z, _, _⟩
      · rw [z, ht] at e
        cases e
        exact absurd rfl (h2 _)
      · rw [z, ha] at e
        cases e
        exact absurd rfl (h1 _ _))
  have nsp : ∀ {b : Addr} {m : Str → Option Value}, s1.heap.Ns b m → (hidT s1.heap H).Ns b m := fun {b m} ⟨o, es, ep, e, d, r⟩ => ⟨o, es, ep, off e (fun _ _ z => by rw [d] at z; cases z) (fun _ z => by rw [d] at z; cases z), d, r⟩
  have kin : K.In (hidT s1.heap H) := fun b o e => hidT_get (KX b o e) (by
    cases q : H b with
    | none => rfl
    | some u =>
      rcases Hs q with ⟨z, _⟩ | ⟨z, z2, _⟩
      · rw [z, nt] at e
        cases e
      · rw [z, z2] at e
        cases e)
  have gT : mainGlobals ≠ t := fun z => by
    obtain ⟨o, es, ep, e, d, _⟩ := hns
    rw [z, ht] at e
    cases e
    cases d
  have TB : LamX.TabB (hidT s1.heap H) mg c t := by
    obtain ⟨m, o, b1, b2, b3, b4, b5, b6⟩ := hbm
    refine ⟨PySem.W.codeHd_of_K kin hd, ⟨m, o, b1, b2, fun z => ?_, fun z => ?_, off b3 (fun _ _ z => by rw [b6] at z; cases z) (fun _ z => by rw [b6] at z; cases z), b4, b5, b6⟩, gT⟩
    · obtain ⟨g, es, ep, e, d, _⟩ := hns
      rw [z, e] at b3
      cases b3
      rw [d] at b6
      cases b6
    · rw [z, ht] at b3
      cases b3
      cases b6
  have hok : HOk P w H s1.heap := fun b u e => by
    rcases Hs e with ⟨rfl, rfl⟩ | ⟨rfl, _, rfl⟩
    · exact ht
    · exact ⟨ha, by rw [List.length_map]; exact sz, vs, _, rv, ha⟩
  have sq : SqL K H a (ns.map V.int) := by
    cases hk : K.lookup a with
    | none => exact .inl (.inr ⟨scO vs, by rw [hH]; exact endH_a aT hk⟩)
    | some o =>
      have e := KX a o hk
      rw [ha] at e
      cases e
      exact .inr ⟨_, vs.toArray, _, hk, rfl, rfl, rfl, by rw [List.size_toArray, hi.length]; exact sz, by simpa using rv⟩
  have env : Env0 P w K mg (hidT s1.heap H) callerA [] s1 H := ⟨rfl, ⟨kin, nsp hns, ⟨mb, nsp hb, hbb⟩, let ⟨mc, h1, h2⟩ := hlim; ⟨mc, nsp h1, h2⟩⟩, fun _ _ e => of_hidT e, Nat.le_of_eq (hidT_size _ _), trivial, fun b z => absurd (show b ∈ ([] : List Addr) from z) (by simp), hok, .of_eq hg⟩
  obtain ⟨f, fd, ps, G, hm, kp, bn⟩ := (F _ kin (nsp hns) TB).ex
  obtain rfl : fa = f := by
    have e : some (Value.ref fa) = some (.ref f) := hf.symm.trans hm
    cases e
    rfl
  have want : sp_law ⟨P, w, K, mg, hidT s1.heap H⟩ [.ref a] H (fun v _ => v = .bl true) := ⟨a, ns, rfl, sq, hl, by show H (He.cT K ("_law_folk", none)).2 = _; rw [htp]; exact Ht, fun _ => rfl⟩
  have bb := bn s1 [.ref a] KX (G.len _ _ _ want)
  rw [List.append_nil] at bb
  refine codeAny_mono (G.run callerA [] s1 H ⟨[.ref a], []⟩ [.ref a] [.ref a] _ ⟨rfl, by decide, by decide⟩ rfl env bb (.cons rfl .nil) want) fun r s' h => ?_
  cases r with
  | error e => exact h.elim
  | ok fl =>
    cases fl with
    | next => exact h.elim
    | brk => exact h.elim
    | cont => exact h.elim
    | ret u =>
      obtain ⟨v, H', os, bare, un, hok', r', q⟩ := h
      obtain rfl : v = .bl true := q
      obtain rfl : u = Value.bool true := r'
      obtain ⟨more, hmr⟩ := un.tbls t #[] Ht
      have tb' : s'.heap.get? t = some { cls := .none, data := .fields (#[] ++ more) } := hok' t _ hmr
      have same : ∀ b o, b ≠ t → s1.heap.get? b = some o → s'.heap.get? b = some o := fun b o n e => by
        cases q2 : H b with
        | none => exact un.keep b o e q2 (fun z => absurd (show b ∈ ([] : List Addr) from z) (by simp)) (by simp)
        | some z =>
          rcases Hs q2 with ⟨y, _⟩ | ⟨y, _, rfl⟩
          · exact absurd y n
          · have z2 := (hok' b _ (un.frzs b _ _ q2)).1
            rw [y, ha] at e
            cases e
            exact z2
      refine ⟨rfl, ⟨fun b o e => ?_, fun b o e => ?_⟩, os, bare⟩
      · by_cases z : b = t
        · subst z
          rw [ht] at e
          cases e
          exact .inr (.inl ⟨((PySem.W.codeHd_of_K KX hd).tab ht).isCodeTable, rfl, #[], more, rfl, tb'⟩)
        · exact .inl (same b o z e)
      · by_cases z : b = t
        · exact ⟨_, by rw [z]; exact tb'⟩
        · exact ⟨o, same b o z e⟩
end Kn
open PySem PySem.W PyProof.Rows
set_option maxRecDepth 100000 in
set_option maxHeartbeats 0 in
theorem PySem.Challenge.cw_onesilent_k74_whole_what_was_missed_tell_holds : PySem.Challenge.rw_onesilent_k74_whole_what_was_missed_tell.Holds := by
  w_on; o_law
  refine HandSHeadRun.head_any (r := Kn.R) (q := view Kn.R.prog [80]) (H := Kn.hk) (ob := Kn.ob) (M := 6000) (loose := Kn.names) (d := HandSHeadRun.topDef Kn.R.prog 80) (kwd := []) Kn.ob_eq
    (by kernel_rfl) (fun s => by kernel_rfl) Kn.run (by kernel_rfl) (by kernel_rfl) (by kernel_rfl) (by rfl) (by first | assumption | decide +kernel) (by decide +kernel) ⟨rfl, rfl, rfl, rfl, rfl, by decide +kernel⟩ ?hw ?hc
  case hw => w_witness2
  case hc =>
    refine Att.attach_callB (l := PySem.Challenge.rw_onesilent_k74_whole_what_was_missed_tell) (n := 63) rfl (by kernel_rfl) fun w s₀ s₁ mg mb fa o pm cd doc a vs ns G Y ho hd hcd hmg0 hobj hints hlen hbits hg => ?_
    obtain ⟨K, KX, c⟩ := Y
    have hmg : mg ("law" : PySem.Str) = some (.ref fa) := by
      have e : (HandSHeadRun.topDef Kn.R.prog 80).name = ("law" : PySem.Str) := by kernel_rfl
      rw [← e]
      exact hmg0
    have mem : (("_law_folk", none) : He.Defn) ∈ Kn.tfs := List.mem_singleton.2 rfl
    exact Kn.law_end KX G.T.g G.T.b G.T.builtins G.T.nolimit hg (c.empty _ mem) (c.out _ mem) (c.hd _ mem) G.T.bmain hobj hints hlen hmg rfl fun base kin gb TB =>
      Kn.C_law (W := ⟨_, w, K, mg, base⟩) ⟨c.t.d, ⟨_, KX, G.T.g⟩, c.more⟩ TB
