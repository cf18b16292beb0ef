import PyProof.Rows.All
import Wide.All
import OpenK.AllK
import Wide.FinOn
import KE.KStateDown
import HandS.Base
import HandS.Call
import HandS.Ends
import HandS.More
import HandS.Words
import HandS.WordsExc
import HandS.Defaults
import HandS.Head0
import HandS.Head1
import HandS.Head2
import HandS.HeadEnd
import HandS.HeadHook1
import HandS.HeadHook2
import PySem.Challenge.RW_echoladder_k42_whole_faults_are_faults
import HandS.ForMost
import HandS.MakeKw
import HandS.Style
import HandS.Conv
import HandS.SetKeys
import HandS.Walk
import HandS.StrMore
import HandS.SortInts
import HandS.IsInst
import PyProof.NeKinds
import KE.KDictDisplayH
import HandS.Replace
import HandS.DictComp
import PyProof.StrBlock2
import PyProof.ListStr
import PyProof.AssignAttr
import HandS.Codes
import HandS.Steps
import HandS.Evl
set_option Elab.async false
set_option linter.all false
set_option maxRecDepth 100000
set_option maxHeartbeats 4000000
namespace K42
open PySem PySem.Spec PyProof.Rows L2
def top (i : Nat) : Stmt := PySem.Challenge.pw_echoladder_k42_whole_faults_are_faults.main.body.getD i (.Pass ⟨0, 0, 0, 0⟩)
abbrev s_g_finish_order : Stmt := top 14
abbrev s_g_strong_parts : Stmt := top 15
abbrev s_g_path_between : Stmt := top 16
abbrev s_g_passes : Stmt := top 17
abbrev s_g_closed_walk : Stmt := top 18
abbrev s_g_cycle_through : Stmt := top 19
abbrev s_g_bounded : Stmt := top 20
abbrev s_g_cycle_with : Stmt := top 21
abbrev s_g_is_alphabet : Stmt := top 27
abbrev s_g_need_alphabet : Stmt := top 28
abbrev s_g_is_state : Stmt := top 30
abbrev s_g_shortest_cycle : Stmt := top 34
abbrev s_g_shortened : Stmt := top 35
abbrev s_g_row_along : Stmt := top 37
abbrev s_g_is_answer : Stmt := top 40
abbrev s_g_is_challenge : Stmt := top 41
abbrev s_g_need_letters : Stmt := top 45
abbrev s_g_translator_edges : Stmt := top 46
abbrev s_g_opponent_edges : Stmt := top 47
abbrev s_g_parity_fault : Stmt := top 48
abbrev s_g_check_translator : Stmt := top 49
abbrev s_g_check_opponent : Stmt := top 50
abbrev s_g_law_output : Stmt := top 52
abbrev s_g_law_normal : Stmt := top 53
abbrev s_g_law_image : Stmt := top 54
abbrev s_g_law_step : Stmt := top 55
abbrev s_g_law_after : Stmt := top 56
abbrev s_g_law_accepts : Stmt := top 57
abbrev s_g_law_written : Stmt := top 58
abbrev s_g_law_against : Stmt := top 59
abbrev s_g_law_bag : Stmt := top 60
abbrev s_g_law_pull : Stmt := top 61
abbrev s_g_law_of : Stmt := top 62
abbrev s_g_law_letters : Stmt := top 63
abbrev s_g_law_raw : Stmt := top 64
abbrev s_g_law_made : Stmt := top 65
abbrev s_g_law_translator : Stmt := top 66
abbrev s_g_law_told : Stmt := top 67
abbrev s_g_law_opponent : Stmt := top 68
abbrev s_g_law_rival : Stmt := top 69
abbrev s_g_law_translator_fault : Stmt := top 70
abbrev s_g_law_answer_row : Stmt := top 71
abbrev s_g_law_opponent_fault : Stmt := top 72
abbrev s_g_law : Stmt := top 73
abbrev s_m_Machine_init : Stmt := inClass (top 31) 0
abbrev s_m_Machine_letters : Stmt := inClass (top 31) 4
abbrev s_m_Machine_start : Stmt := inClass (top 31) 6
abbrev s_m_Machine_step : Stmt := inClass (top 31) 7
abbrev s_m_Translator_init : Stmt := inClass (top 42) 0
abbrev s_m_Translator_source : Stmt := inClass (top 42) 4
abbrev s_m_Translator_target : Stmt := inClass (top 42) 5
abbrev s_m_Translator_states : Stmt := inClass (top 42) 6
abbrev s_m_Translator_start : Stmt := inClass (top 42) 7
abbrev s_m_Translator_step : Stmt := inClass (top 42) 8
abbrev s_m_Opponent_init : Stmt := inClass (top 43) 0
abbrev s_m_Opponent_source : Stmt := inClass (top 43) 4
abbrev s_m_Opponent_target : Stmt := inClass (top 43) 5
abbrev s_m_Opponent_states : Stmt := inClass (top 43) 6
abbrev s_m_Opponent_start : Stmt := inClass (top 43) 7
abbrev s_m_Opponent_letter : Stmt := inClass (top 43) 8
abbrev s_m_Opponent_move : Stmt := inClass (top 43) 9
def d_g_finish_order : He.DefD := ⟨("finish_order", none), "finish_order", "finish_order", defArgs s_g_finish_order, defBody s_g_finish_order, defScope s_g_finish_order, [], []⟩
def d_g_strong_parts : He.DefD := ⟨("strong_parts", none), "strong_parts", "strong_parts", defArgs s_g_strong_parts, defBody s_g_strong_parts, defScope s_g_strong_parts, [], []⟩
def d_g_path_between : He.DefD := ⟨("path_between", none), "path_between", "path_between", defArgs s_g_path_between, defBody s_g_path_between, defScope s_g_path_between, [], []⟩
def d_g_passes : He.DefD := ⟨("passes", none), "passes", "passes", defArgs s_g_passes, defBody s_g_passes, defScope s_g_passes, [], []⟩
def d_g_closed_walk : He.DefD := ⟨("closed_walk", none), "closed_walk", "closed_walk", defArgs s_g_closed_walk, defBody s_g_closed_walk, defScope s_g_closed_walk, [], []⟩
def d_g_cycle_through : He.DefD := ⟨("cycle_through", none), "cycle_through", "cycle_through", defArgs s_g_cycle_through, defBody s_g_cycle_through, defScope s_g_cycle_through, [], []⟩
def d_g_bounded : He.DefD := ⟨("bounded", none), "bounded", "bounded", defArgs s_g_bounded, defBody s_g_bounded, defScope s_g_bounded, [], []⟩
def d_g_cycle_with : He.DefD := ⟨("cycle_with", none), "cycle_with", "cycle_with", defArgs s_g_cycle_with, defBody s_g_cycle_with, defScope s_g_cycle_with, [], []⟩
def d_g_is_alphabet : He.DefD := ⟨("is_alphabet", none), "is_alphabet", "is_alphabet", defArgs s_g_is_alphabet, defBody s_g_is_alphabet, defScope s_g_is_alphabet, [], []⟩
def d_g_need_alphabet : He.DefD := ⟨("need_alphabet", none), "need_alphabet", "need_alphabet", defArgs s_g_need_alphabet, defBody s_g_need_alphabet, defScope s_g_need_alphabet, [], []⟩
def d_g_is_state : He.DefD := ⟨("is_state", none), "is_state", "is_state", defArgs s_g_is_state, defBody s_g_is_state, defScope s_g_is_state, [], []⟩
def d_g_shortest_cycle : He.DefD := ⟨("shortest_cycle", none), "shortest_cycle", "shortest_cycle", defArgs s_g_shortest_cycle, defBody s_g_shortest_cycle, defScope s_g_shortest_cycle, [], []⟩
def d_g_shortened : He.DefD := ⟨("shortened", none), "shortened", "shortened", defArgs s_g_shortened, defBody s_g_shortened, defScope s_g_shortened, [], []⟩
def d_g_row_along : He.DefD := ⟨("row_along", none), "row_along", "row_along", defArgs s_g_row_along, defBody s_g_row_along, defScope s_g_row_along, [], []⟩
def d_g_is_answer : He.DefD := ⟨("is_answer", none), "is_answer", "is_answer", defArgs s_g_is_answer, defBody s_g_is_answer, defScope s_g_is_answer, [], []⟩
def d_g_is_challenge : He.DefD := ⟨("is_challenge", none), "is_challenge", "is_challenge", defArgs s_g_is_challenge, defBody s_g_is_challenge, defScope s_g_is_challenge, [], []⟩
def d_g_need_letters : He.DefD := ⟨("need_letters", none), "need_letters", "need_letters", defArgs s_g_need_letters, defBody s_g_need_letters, defScope s_g_need_letters, [], []⟩
def d_g_translator_edges : He.DefD := ⟨("translator_edges", none), "translator_edges", "translator_edges", defArgs s_g_translator_edges, defBody s_g_translator_edges, defScope s_g_translator_edges, [], []⟩
def d_g_opponent_edges : He.DefD := ⟨("opponent_edges", none), "opponent_edges", "opponent_edges", defArgs s_g_opponent_edges, defBody s_g_opponent_edges, defScope s_g_opponent_edges, [], []⟩
def d_g_parity_fault : He.DefD := ⟨("parity_fault", none), "parity_fault", "parity_fault", defArgs s_g_parity_fault, defBody s_g_parity_fault, defScope s_g_parity_fault, [], []⟩
def d_g_check_translator : He.DefD := ⟨("check_translator", none), "check_translator", "check_translator", defArgs s_g_check_translator, defBody s_g_check_translator, defScope s_g_check_translator, [], [("opposite", .bl false)]⟩
def d_g_check_opponent : He.DefD := ⟨("check_opponent", none), "check_opponent", "check_opponent", defArgs s_g_check_opponent, defBody s_g_check_opponent, defScope s_g_check_opponent, [], [("waits", .bl true)]⟩
def d_g_law_output : He.DefD := ⟨("_law_output", none), "_law_output", "_law_output", defArgs s_g_law_output, defBody s_g_law_output, defScope s_g_law_output, [], []⟩
def d_g_law_normal : He.DefD := ⟨("_law_normal", none), "_law_normal", "_law_normal", defArgs s_g_law_normal, defBody s_g_law_normal, defScope s_g_law_normal, [], []⟩
def d_g_law_image : He.DefD := ⟨("_law_image", none), "_law_image", "_law_image", defArgs s_g_law_image, defBody s_g_law_image, defScope s_g_law_image, [], []⟩
def d_g_law_step : He.DefD := ⟨("_law_step", none), "_law_step", "_law_step", defArgs s_g_law_step, defBody s_g_law_step, defScope s_g_law_step, [], []⟩
def d_g_law_after : He.DefD := ⟨("_law_after", none), "_law_after", "_law_after", defArgs s_g_law_after, defBody s_g_law_after, defScope s_g_law_after, [], []⟩
def d_g_law_accepts : He.DefD := ⟨("_law_accepts", none), "_law_accepts", "_law_accepts", defArgs s_g_law_accepts, defBody s_g_law_accepts, defScope s_g_law_accepts, [], []⟩
def d_g_law_written : He.DefD := ⟨("_law_written", none), "_law_written", "_law_written", defArgs s_g_law_written, defBody s_g_law_written, defScope s_g_law_written, [], []⟩
def d_g_law_against : He.DefD := ⟨("_law_against", none), "_law_against", "_law_against", defArgs s_g_law_against, defBody s_g_law_against, defScope s_g_law_against, [], []⟩
def d_g_law_bag : He.DefD := ⟨("_law_bag", none), "_law_bag", "_law_bag", defArgs s_g_law_bag, defBody s_g_law_bag, defScope s_g_law_bag, [], []⟩
def d_g_law_pull : He.DefD := ⟨("_law_pull", none), "_law_pull", "_law_pull", defArgs s_g_law_pull, defBody s_g_law_pull, defScope s_g_law_pull, [], []⟩
def d_g_law_of : He.DefD := ⟨("_law_of", none), "_law_of", "_law_of", defArgs s_g_law_of, defBody s_g_law_of, defScope s_g_law_of, [], []⟩
def d_g_law_letters : He.DefD := ⟨("_law_letters", none), "_law_letters", "_law_letters", defArgs s_g_law_letters, defBody s_g_law_letters, defScope s_g_law_letters, [], []⟩
def d_g_law_raw : He.DefD := ⟨("_law_raw", none), "_law_raw", "_law_raw", defArgs s_g_law_raw, defBody s_g_law_raw, defScope s_g_law_raw, [], []⟩
def d_g_law_made : He.DefD := ⟨("_law_made", none), "_law_made", "_law_made", defArgs s_g_law_made, defBody s_g_law_made, defScope s_g_law_made, [], []⟩
def d_g_law_translator : He.DefD := ⟨("_law_translator", none), "_law_translator", "_law_translator", defArgs s_g_law_translator, defBody s_g_law_translator, defScope s_g_law_translator, [], []⟩
def d_g_law_told : He.DefD := ⟨("_law_told", none), "_law_told", "_law_told", defArgs s_g_law_told, defBody s_g_law_told, defScope s_g_law_told, [], []⟩
def d_g_law_opponent : He.DefD := ⟨("_law_opponent", none), "_law_opponent", "_law_opponent", defArgs s_g_law_opponent, defBody s_g_law_opponent, defScope s_g_law_opponent, [], []⟩
def d_g_law_rival : He.DefD := ⟨("_law_rival", none), "_law_rival", "_law_rival", defArgs s_g_law_rival, defBody s_g_law_rival, defScope s_g_law_rival, [], []⟩
def d_g_law_translator_fault : He.DefD := ⟨("_law_translator_fault", none), "_law_translator_fault", "_law_translator_fault", defArgs s_g_law_translator_fault, defBody s_g_law_translator_fault, defScope s_g_law_translator_fault, [], []⟩
def d_g_law_answer_row : He.DefD := ⟨("_law_answer_row", none), "_law_answer_row", "_law_answer_row", defArgs s_g_law_answer_row, defBody s_g_law_answer_row, defScope s_g_law_answer_row, [], []⟩
def d_g_law_opponent_fault : He.DefD := ⟨("_law_opponent_fault", none), "_law_opponent_fault", "_law_opponent_fault", defArgs s_g_law_opponent_fault, defBody s_g_law_opponent_fault, defScope s_g_law_opponent_fault, [], []⟩
def d_g_law : He.DefD := ⟨("law", none), "law", "law", defArgs s_g_law, defBody s_g_law, defScope s_g_law, [], []⟩
def d_m_Machine_init : He.DefD := ⟨("Machine", some "__init__"), "__init__", "Machine.__init__", defArgs s_m_Machine_init, defBody s_m_Machine_init, defScope s_m_Machine_init, [], [("start", .int 0)]⟩
def d_m_Machine_letters : He.DefD := ⟨("Machine", some "letters"), "letters", "Machine.letters", defArgs s_m_Machine_letters, defBody s_m_Machine_letters, defScope s_m_Machine_letters, [], []⟩
def d_m_Machine_start : He.DefD := ⟨("Machine", some "start"), "start", "Machine.start", defArgs s_m_Machine_start, defBody s_m_Machine_start, defScope s_m_Machine_start, [], []⟩
def d_m_Machine_step : He.DefD := ⟨("Machine", some "step"), "step", "Machine.step", defArgs s_m_Machine_step, defBody s_m_Machine_step, defScope s_m_Machine_step, [], []⟩
def d_m_Translator_init : He.DefD := ⟨("Translator", some "__init__"), "__init__", "Translator.__init__", defArgs s_m_Translator_init, defBody s_m_Translator_init, defScope s_m_Translator_init, [], [("start", .int 0)]⟩
def d_m_Translator_source : He.DefD := ⟨("Translator", some "source"), "source", "Translator.source", defArgs s_m_Translator_source, defBody s_m_Translator_source, defScope s_m_Translator_source, [], []⟩
def d_m_Translator_target : He.DefD := ⟨("Translator", some "target"), "target", "Translator.target", defArgs s_m_Translator_target, defBody s_m_Translator_target, defScope s_m_Translator_target, [], []⟩
def d_m_Translator_states : He.DefD := ⟨("Translator", some "states"), "states", "Translator.states", defArgs s_m_Translator_states, defBody s_m_Translator_states, defScope s_m_Translator_states, [], []⟩
def d_m_Translator_start : He.DefD := ⟨("Translator", some "start"), "start", "Translator.start", defArgs s_m_Translator_start, defBody s_m_Translator_start, defScope s_m_Translator_start, [], []⟩
def d_m_Translator_step : He.DefD := ⟨("Translator", some "step"), "step", "Translator.step", defArgs s_m_Translator_step, defBody s_m_Translator_step, defScope s_m_Translator_step, [], []⟩
def d_m_Opponent_init : He.DefD := ⟨("Opponent", some "__init__"), "__init__", "Opponent.__init__", defArgs s_m_Opponent_init, defBody s_m_Opponent_init, defScope s_m_Opponent_init, [], [("start", .int 0)]⟩
def d_m_Opponent_source : He.DefD := ⟨("Opponent", some "source"), "source", "Opponent.source", defArgs s_m_Opponent_source, defBody s_m_Opponent_source, defScope s_m_Opponent_source, [], []⟩
def d_m_Opponent_target : He.DefD := ⟨("Opponent", some "target"), "target", "Opponent.target", defArgs s_m_Opponent_target, defBody s_m_Opponent_target, defScope s_m_Opponent_target, [], []⟩
def d_m_Opponent_states : He.DefD := ⟨("Opponent", some "states"), "states", "Opponent.states", defArgs s_m_Opponent_states, defBody s_m_Opponent_states, defScope s_m_Opponent_states, [], []⟩
def d_m_Opponent_start : He.DefD := ⟨("Opponent", some "start"), "start", "Opponent.start", defArgs s_m_Opponent_start, defBody s_m_Opponent_start, defScope s_m_Opponent_start, [], []⟩
def d_m_Opponent_letter : He.DefD := ⟨("Opponent", some "letter"), "letter", "Opponent.letter", defArgs s_m_Opponent_letter, defBody s_m_Opponent_letter, defScope s_m_Opponent_letter, [], []⟩
def d_m_Opponent_move : He.DefD := ⟨("Opponent", some "move"), "move", "Opponent.move", defArgs s_m_Opponent_move, defBody s_m_Opponent_move, defScope s_m_Opponent_move, [], []⟩
def fn0 : List He.DefD := [d_g_finish_order, d_g_strong_parts, d_g_path_between, d_g_passes, d_g_closed_walk, d_g_cycle_through, d_g_bounded, d_g_cycle_with, d_g_is_alphabet, d_g_need_alphabet, d_g_is_state, d_g_shortest_cycle, d_g_shortened, d_g_row_along, d_g_is_answer, d_g_is_challenge, d_g_need_letters, d_g_translator_edges, d_g_opponent_edges, d_g_parity_fault]
def fn1 : List He.DefD := [d_g_check_translator, d_g_check_opponent, d_g_law_output, d_g_law_normal, d_g_law_image, d_g_law_step, d_g_law_after, d_g_law_accepts, d_g_law_written, d_g_law_against, d_g_law_bag, d_g_law_pull, d_g_law_of, d_g_law_letters, d_g_law_raw, d_g_law_made, d_g_law_translator, d_g_law_told, d_g_law_opponent, d_g_law_rival]
def fn2 : List He.DefD := [d_g_law_translator_fault, d_g_law_answer_row, d_g_law_opponent_fault, d_g_law, d_m_Machine_init, d_m_Machine_letters, d_m_Machine_start, d_m_Machine_step, d_m_Translator_init, d_m_Translator_source, d_m_Translator_target, d_m_Translator_states, d_m_Translator_start, d_m_Translator_step, d_m_Opponent_init, d_m_Opponent_source, d_m_Opponent_target, d_m_Opponent_states, d_m_Opponent_start, d_m_Opponent_letter]
def fn3 : List He.DefD := [d_m_Opponent_move]
def fn : List He.DefD := fn0 ++ (fn1 ++ (fn2 ++ (fn3)))
def fa0 : List He.Fa := [.glo "finish_order", .glo "strong_parts", .glo "path_between", .glo "passes", .glo "closed_walk", .glo "cycle_through", .glo "bounded", .glo "cycle_with", .glo "is_alphabet", .glo "need_alphabet", .glo "is_state", .glo "shortest_cycle", .glo "shortened", .glo "row_along", .glo "is_answer", .glo "is_challenge", .glo "need_letters", .glo "translator_edges", .glo "opponent_edges", .glo "parity_fault"]
def fa1 : List He.Fa := [.glo "check_translator", .glo "check_opponent", .glo "_law_output", .glo "_law_normal", .glo "_law_image", .glo "_law_step", .glo "_law_after", .glo "_law_accepts", .glo "_law_written", .glo "_law_against", .glo "_law_bag", .glo "_law_pull", .glo "_law_of", .glo "_law_letters", .glo "_law_raw", .glo "_law_made", .glo "_law_translator", .glo "_law_told", .glo "_law_opponent", .glo "_law_rival"]
def fa2 : List He.Fa := [.glo "_law_translator_fault", .glo "_law_answer_row", .glo "_law_opponent_fault", .glo "law", .glo "Machine", .glo "Translator", .glo "Opponent", .free "len", .free "all", .free "range", .free "tuple", .free "list", .free "enumerate", .free "sorted", .free "int", .free "max", .free "isinstance", .int "MAX_LETTERS" (3), .int "MAX_STATES" (5), .int "MAX_PRIORITY" (3)]
def fa3 : List He.Fa := [.int "NONE" (-1), .str "LOWERCASE" "abcdefghijklmnopqrstuvwxyz", .str "WAIT" "-", .cls "Machine", .mkr "Machine", .noat "Machine" "alphabet", .noat "Machine" "table", .noat "Machine" "first", .meth "Machine" "letters", .meth "Machine" "start", .meth "Machine" "step", .cls "Translator", .mkr "Translator", .noat "Translator" "inputs", .noat "Translator" "outputs", .noat "Translator" "table", .noat "Translator" "first", .meth "Translator" "source", .meth "Translator" "target", .meth "Translator" "states"]
def fa4 : List He.Fa := [.meth "Translator" "start", .meth "Translator" "step", .cls "Opponent", .mkr "Opponent", .noat "Opponent" "written_letters", .noat "Opponent" "answer_letters", .noat "Opponent" "table", .noat "Opponent" "first", .meth "Opponent" "source", .meth "Opponent" "target", .meth "Opponent" "states", .meth "Opponent" "start", .meth "Opponent" "letter", .meth "Opponent" "move"]
def fa : List He.Fa := fa0 ++ (fa1 ++ (fa2 ++ (fa3 ++ (fa4))))
def loose0 : List PySem.Str := ["_wall", "EchoError", "NotFound", "InvalidLetters", "InvalidMachine", "InvalidRow", "InvalidTranslator", "InvalidOpponent", "LetterMismatch", "LimitExceeded", "OutOfRange", "UnknownLetter", "finish_order", "strong_parts", "path_between", "passes", "closed_walk", "cycle_through", "bounded", "cycle_with"]
def loose1 : List PySem.Str := ["LOWERCASE", "MAX_LETTERS", "MAX_STATES", "MAX_PRIORITY", "is_alphabet", "need_alphabet", "need_row", "is_state", "Machine", "NONE", "shortest_cycle", "shortened", "row_along", "WAIT", "is_answer", "is_challenge", "Translator", "Opponent", "need_letters", "translator_edges"]
def loose2 : List PySem.Str := ["opponent_edges", "parity_fault", "check_translator", "check_opponent", "_law_output", "_law_normal", "_law_image", "_law_step", "_law_after", "_law_accepts", "_law_written", "_law_against", "_law_bag", "_law_pull", "_law_of", "_law_letters", "_law_raw", "_law_made", "_law_translator", "_law_told"]
def loose3 : List PySem.Str := ["_law_opponent", "_law_rival", "_law_translator_fault", "_law_answer_row", "_law_opponent_fault"]
def loose : List PySem.Str := loose0 ++ (loose1 ++ (loose2 ++ (loose3)))
abbrev R : PySem.W.OpenRow := PySem.W.OpenLaw.row PySem.Challenge.rw_echoladder_k42_whole_faults_are_faults
section
variable {β : Type}
def frA (n : Nat) (k : Nat → β) : β := match n with
  | 0 => k 0
  | m + 1 => k (m + 1)
theorem frA_eq (n : Nat) (k : Nat → β) : frA n k = k n := by cases n <;> rfl
def frL : List Nat → (List Nat → β) → β
  | [], k => k []
  | a :: r, k => frA a fun a => frL r fun r => k (a :: r)
theorem frL_eq : ∀ (l : List Nat) (k : List Nat → β), frL l k = k l
  | [], _ => rfl
  | a :: r, k => by
    show frA a (fun a => frL r fun r => k (a :: r)) = _
    rw [frA_eq, frL_eq r]
def refsL (g : Addr → Option Obj) (as : List Addr) : List Addr := as.flatMap fun a => match g a with
  | some o => He.refsD o
  | none => []
def levs (g : Addr → Option Obj) : Nat → List Addr → List Addr
  | 0, as => as
  | n + 1, as => as ++ levs g n ((refsL g as).filter fun a => !as.elem a)
def levF (g : Addr → Option Obj) : Nat → List Nat → (List Nat → β) → β
  | 0, as, k => k as
  | n + 1, as, k => frL ((refsL g as).filter fun a => !as.elem a) fun nx => levF g n nx fun r => k (as ++ r)
theorem levF_eq (g : Addr → Option Obj) : ∀ (n : Nat) (as : List Nat) (k : List Nat → β), levF g n as k = k (levs g n as)
  | 0, _, _ => rfl
  | n + 1, as, k => by
    show frL ((refsL g as).filter fun a => !as.elem a) (fun nx => levF g n nx fun r => k (as ++ r)) = _
    rw [frL_eq, levF_eq g n]
    rfl
def frF (g : Addr → Option Obj) : List Nat → (PySem.W.Frag → β) → β
  | [], k => k []
  | a :: r, k => match g a with
    | some o => frF g r fun K => k ((a, o) :: K)
    | none => frF g r k
theorem frF_eq (g : Addr → Option Obj) : ∀ (as : List Nat) (k : PySem.W.Frag → β), frF g as k = k (He.frG g as)
  | [], _ => rfl
  | a :: r, k => by
    show (match g a with
      | some o => frF g r fun K => k ((a, o) :: K)
      | none => frF g r k) = _
    unfold He.frG
    rw [List.filterMap_cons]
    cases g a with
    | some o =>
      show frF g r (fun K => k ((a, o) :: K)) = _
      rw [frF_eq g r]
      rfl
    | none =>
      show frF g r k = _
      rw [frF_eq g r]
      rfl
end
def obsK (fa : List He.Fa) (fn : List He.DefD) (g : Addr → Option Obj) : He.AlD := levF g 4 [mainGlobals] fun as => frL as fun as => frF g as fun K => He.obsD fa fn K
def partK (g : Addr → Option Obj) : PySem.W.Frag := He.frG g (levs g 4 [mainGlobals])
theorem obsK_eq (fa : List He.Fa) (fn : List He.DefD) (g : Addr → Option Obj) : obsK fa fn g = He.obsD fa fn (partK g) := by
  unfold obsK
  rw [levF_eq, frL_eq, frF_eq]
  rfl
def hookK (fa : List He.Fa) (fn : List He.DefD) : PySem.W.Hook where
  α := He.AlD
  obs := fun s => obsK fa fn s.heap.get?
  val := fun _ => He.valD fn
  says := fun _ h => ∃ K : PySem.W.Frag, K.In h ∧ He.SaysD fa fn K
  of := fun _ s e => ⟨partK s.heap.get?, He.frG_in, by
    have e2 : obsK fa fn s.heap.get? = He.valD fn := e
    rw [obsK_eq] at e2
    exact e2⟩
  keeps := fun _ _ _ ⟨K, hK, c⟩ k => ⟨K, PySem.W.Frag.In.keeps hK k, c⟩
abbrev hk : PySem.W.Hook := hookK fa fn
noncomputable def ob (s : PySem.W.SharedT) : He.AlD := obsK fa fn (HandSHeadRun.getT s)
theorem ob_eq (s : PySem.W.SharedT) : ob s = hk.obs s.abs := by
  have e : HandSHeadRun.getT s = s.abs.heap.get? := funext (HandSHeadRun.getT_eq s)
  show obsK fa fn (HandSHeadRun.getT s) = obsK fa fn s.abs.heap.get?
  rw [e]
end K42
set_option Elab.async false
set_option linter.all false
set_option maxRecDepth 100000
set_option maxHeartbeats 0
namespace K42
open PySem PySem.Spec PyProof.Rows L2
theorem run (w : World) : HandSHeadRun.RunEq R (PySem.W.view R.prog [73]) hk ob 6000 loose w := by
  intro os
  kernel_rfl
end K42
set_option maxHeartbeats 1000000
set_option linter.all false
namespace K42
section
variable {α : Type}

inductive Reach (out : α → List α) : α → α → Prop where
  | refl (u : α) : Reach out u u
  | step {u v w : α} : v ∈ out u → Reach out v w → Reach out u w

theorem Reach.trans {out : α → List α} {u v w : α} (a : Reach out u v) (b : Reach out v w) : Reach out u w := by
  induction a with
  | refl => exact b
  | step h _ ih => exact .step h (ih b)
theorem Reach.one {out : α → List α} {u v : α} (h : v ∈ out u) : Reach out u v := .step h (.refl v)
theorem Reach.snoc {out : α → List α} {u v w : α} (a : Reach out u v) (h : w ∈ out v) : Reach out u w := a.trans (.one h)
theorem Reach.inv {out : α → List α} {P : α → Prop} (hP : ∀ x, P x → ∀ y ∈ out x, P y) {u v : α} (r : Reach out u v) (h : P u) : P v := by
  induction r with
  | refl => exact h
  | step hv _ ih => exact ih (hP _ h _ hv)
theorem Reach.first_out {out : α → List α} {O S : α → Prop} (hO : ∀ x, O x → ∀ y ∈ out x, S y) {u v : α} (r : Reach out u v) (hu : O u) (hv : ¬ O v) :
    ∃ g, S g ∧ ¬ O g ∧ Reach out u g ∧ Reach out g v := by
  induction r with
  | refl => exact absurd hu hv
  | @step u x w hx r ih =>
    by_cases ox : O x
    · obtain ⟨g, a, b, c, d⟩ := ih ox hv
      exact ⟨g, a, b, .step hx c, d⟩
    · exact ⟨x, hO _ hu _ hx, ox, .one hx, r⟩

def Sim (out : α → List α) (u v : α) : Prop := Reach out u v ∧ Reach out v u
theorem Sim.refl {out : α → List α} (u : α) : Sim out u u := ⟨.refl u, .refl u⟩
theorem Sim.symm {out : α → List α} {u v : α} (h : Sim out u v) : Sim out v u := ⟨h.2, h.1⟩
theorem Sim.trans {out : α → List α} {u v w : α} (a : Sim out u v) (b : Sim out v w) : Sim out u w := ⟨a.1.trans b.1, b.2.trans a.2⟩

def FrOk (out : α → List α) (S : α → Prop) : List α → List (α × Nat) → Prop
  | _, [] => True
  | ab, (u, k) :: r => (∀ t ∈ (out u).take k, S t ∨ t ∈ ab) ∧ FrOk out S (u :: ab) r
theorem FrOk.mono {out : α → List α} {S S' : α → Prop} : ∀ {fs : List (α × Nat)} {ab ab' : List α}, (∀ x, S x → S' x) → (∀ x ∈ ab, S' x ∨ x ∈ ab') → FrOk out S ab fs → FrOk out S' ab' fs
  | [], _, _, _, _, _ => trivial
  | (u, k) :: r, ab, ab', h1, h2, h => by
    refine ⟨fun t ht => ?_, FrOk.mono h1 (fun x hx => ?_) h.2⟩
    · rcases h.1 t ht with a | a
      · exact .inl (h1 _ a)
      · exact h2 t a
    · rcases List.mem_cons.mp hx with e | hx
      · exact .inr (e ▸ List.mem_cons_self)
      · rcases h2 x hx with a | a
        · exact .inl a
        · exact .inr (List.mem_cons_of_mem _ a)

def FinOk (out : α → List α) (O : List α) : Prop := ∀ O1 v O2, O = O1 ++ v :: O2 → ∀ u, Reach out u v → ∃ u', Sim out u u' ∧ u' ∉ O1

theorem FinOk.nil {out : α → List α} : FinOk out [] := by
  intro O1 v O2 h
  cases O1 <;> simp at h
theorem FinOk.snoc {out : α → List α} {O : List α} {v : α} (h : FinOk out O) (hv : ∀ u, Reach out u v → ∃ u', Sim out u u' ∧ u' ∉ O) : FinOk out (O ++ [v]) := by
  intro O1 w O2 e u hu
  rcases List.eq_nil_or_concat O2 with rfl | ⟨O3, z, rfl⟩
  · have e2 := List.append_inj' e rfl
    obtain ⟨e3, e4⟩ := e2
    subst e3
    have e5 : v = w := by simpa using e4
    subst e5
    exact hv u hu
  · have e1 : O ++ [v] = (O1 ++ w :: O3) ++ [z] := by rw [e]; simp
    have e2 := List.append_inj' e1 rfl
    exact h O1 w O3 e2.1 u hu

structure DI (out : α → List α) (ns : List α) (S : α → Prop) (O : List α) (fs : List (α × Nat)) : Prop where
  sub : ∀ x ∈ O, S x
  fr : ∀ p ∈ fs, p.1 ∈ ns ∧ p.2 ≤ (out p.1).length ∧ (0 < p.2 → S p.1 ∧ p.1 ∉ O)
  gray : ∀ x, S x → x ∉ O → ∃ k, 0 < k ∧ (x, k) ∈ fs
  chain : fs.Pairwise fun a b => Reach out b.1 a.1
  clo : ∀ x ∈ O, ∀ y ∈ out x, S y
  ok : FrOk out S [] fs
  meet : ∀ u ∈ O, ∀ g, S g → g ∉ O → Reach out u g → ∃ h, S h ∧ h ∉ O ∧ Sim out u h
  fin : FinOk out O
  dis : fs.Pairwise fun a b => 0 < a.2 → 0 < b.2 → a.1 ≠ b.1
  sn : ∀ x, S x → x ∈ ns

variable {out : α → List α} {ns O : List α} {S S' : α → Prop} {r : List (α × Nat)} {u t : α} {k : Nat}

theorem DI.start : DI out ns (fun _ => False) [] [] :=
  ⟨by simp, by simp, by simp, List.Pairwise.nil, by simp, trivial, by simp, FinOk.nil, List.Pairwise.nil, by simp⟩

theorem DI.root (D : DI out ns S O []) (hu : u ∈ ns) : DI out ns S O [(u, 0)] := by
  refine ⟨D.sub, ?_, ?_, by simp, D.clo, ⟨by simp, trivial⟩, D.meet, D.fin, by simp, D.sn⟩
  · intro p hp
    have e : p = (u, 0) := by simpa using hp
    subst e
    exact ⟨hu, Nat.zero_le _, fun h => absurd h (by simp)⟩
  · intro x hx ho
    obtain ⟨k, _, hk⟩ := D.gray x hx ho
    simp at hk

theorem DI.skip (D : DI out ns S O ((u, 0) :: r)) (hu : S u) : DI out ns S O r := by
  refine ⟨D.sub, fun p hp => D.fr p (List.mem_cons_of_mem _ hp), ?_, (List.pairwise_cons.mp D.chain).2, D.clo, ?_, D.meet, D.fin, (List.pairwise_cons.mp D.dis).2, D.sn⟩
  · intro x hx ho
    obtain ⟨k, h1, h2⟩ := D.gray x hx ho
    rcases List.mem_cons.mp h2 with e | e
    · cases e; exact absurd h1 (Nat.lt_irrefl 0)
    · exact ⟨k, h1, e⟩
  · exact FrOk.mono (fun _ h => h) (fun x hx => by
      have e : x = u := by simpa using hx
      subst e
      exact .inl hu) D.ok.2

theorem DI.notO (D : DI out ns S O ((u, k) :: r)) (hk : ¬ (k = 0 ∧ S u)) : u ∉ O := by
  intro ho
  by_cases h0 : k = 0
  · exact hk ⟨h0, D.sub u ho⟩
  · exact ((D.fr (u, k) List.mem_cons_self).2.2 (Nat.pos_of_ne_zero h0)).2 ho
theorem DI.toTop (D : DI out ns S O ((u, k) :: r)) {g : α} (hg : S g) (ho : g ∉ O) : Reach out g u := by
  obtain ⟨j, _, hj⟩ := D.gray g hg ho
  rcases List.mem_cons.mp hj with e | e
  · cases e; exact .refl u
  · exact (List.pairwise_cons.mp D.chain).1 _ e
theorem DI.meet' (D : DI out ns S O ((u, k) :: r)) (hk : ¬ (k = 0 ∧ S u)) (hS : ∀ x, S' x ↔ S x ∨ x = u) :
    ∀ x ∈ O, ∀ g, S' g → g ∉ O → Reach out x g → ∃ h, S h ∧ h ∉ O ∧ Sim out x h := by
  intro x hx g hg ho hr
  obtain ⟨g', h1, h2, h3, h4⟩ := hr.first_out (O := fun z => z ∈ O) (S := S) (fun z hz y hy => D.clo z hz y hy) hx ho
  exact D.meet x hx g' h1 h2 h3

theorem DI.push (D : DI out ns S O ((u, k) :: r)) (hk : ¬ (k = 0 ∧ S u)) (hS : ∀ x, S' x ↔ S x ∨ x = u) (ht : (out u)[k]? = some t) (htn : t ∈ ns) : DI out ns S' O ((t, 0) :: (u, k + 1) :: r) := by
  have hlt : k < (out u).length := (List.getElem?_eq_some_iff.mp ht).1
  have mem_t : t ∈ out u := List.mem_of_getElem? ht
  have hun := (D.fr (u, k) List.mem_cons_self).1
  have noO := D.notO hk
  have chain := List.pairwise_cons.mp D.chain
  have dis := List.pairwise_cons.mp D.dis
  refine ⟨fun x hx => (hS x).mpr (.inl (D.sub x hx)), ?_, ?_, ?_, fun x hx y hy => (hS y).mpr (.inl (D.clo x hx y hy)), ?_, ?_, D.fin, ?_, ?_⟩
  · intro p hp
    rcases List.mem_cons.mp hp with e | hp
    · subst e
      exact ⟨htn, Nat.zero_le _, fun h => absurd h (Nat.lt_irrefl 0)⟩
    rcases List.mem_cons.mp hp with e | hp
    · subst e
      exact ⟨hun, hlt, fun _ => ⟨(hS u).mpr (.inr rfl), noO⟩⟩
    · obtain ⟨a, b, c⟩ := D.fr p (List.mem_cons_of_mem _ hp)
      exact ⟨a, b, fun h => ⟨(hS _).mpr (.inl (c h).1), (c h).2⟩⟩
  · intro x hx ho
    by_cases hxu : x = u
    · subst hxu
      exact ⟨k + 1, Nat.succ_pos _, List.mem_cons_of_mem _ List.mem_cons_self⟩
    · rcases (hS x).mp hx with a | a
      · obtain ⟨j, h1, h2⟩ := D.gray x a ho
        rcases List.mem_cons.mp h2 with e | e
        · cases e; exact absurd rfl hxu
        · exact ⟨j, h1, List.mem_cons_of_mem _ (List.mem_cons_of_mem _ e)⟩
      · exact absurd a hxu
  · refine List.pairwise_cons.mpr ⟨?_, List.pairwise_cons.mpr ⟨fun b hb => chain.1 b hb, chain.2⟩⟩
    intro b hb
    rcases List.mem_cons.mp hb with e | hb
    · subst e; exact .one mem_t
    · exact (chain.1 b hb).snoc mem_t
  · refine ⟨by simp, ?_, ?_⟩
    · intro x hx
      have hx' : x ∈ (out u).take k ∨ x = t := by
        rw [List.take_add_one, ht] at hx
        simpa using hx
      rcases hx' with a | a
      · rcases D.ok.1 x a with b | b
        · exact .inl ((hS x).mpr (.inl b))
        · simp at b
      · exact .inr (by simp [a])
    · refine FrOk.mono (fun x h => (hS x).mpr (.inl h)) (fun x hx => ?_) D.ok.2
      have e : x = u := by simpa using hx
      exact .inr (by simp [e])
  · intro x hx g hg ho hr
    obtain ⟨h, a, b, c⟩ := D.meet' hk hS x hx g hg ho hr
    exact ⟨h, (hS h).mpr (.inl a), b, c⟩
  · refine List.pairwise_cons.mpr ⟨fun b _ h => absurd h (Nat.lt_irrefl 0), List.pairwise_cons.mpr ⟨?_, dis.2⟩⟩
    intro b hb _ h2
    by_cases h0 : k = 0
    · subst h0
      intro e
      have e' : u = b.1 := e
      exact hk ⟨rfl, e' ▸ ((D.fr b (List.mem_cons_of_mem _ hb)).2.2 h2).1⟩
    · exact dis.1 b hb (Nat.pos_of_ne_zero h0) h2
  · intro x hx
    rcases (hS x).mp hx with a | a
    · exact D.sn x a
    · exact a ▸ hun

theorem DI.finish (D : DI out ns S O ((u, k) :: r)) (hk : ¬ (k = 0 ∧ S u)) (hS : ∀ x, S' x ↔ S x ∨ x = u) (hl : k = (out u).length) : DI out ns S' (O ++ [u]) r := by
  have hun := (D.fr (u, k) List.mem_cons_self).1
  have noO := D.notO hk
  have chain := List.pairwise_cons.mp D.chain
  have dis := List.pairwise_cons.mp D.dis
  have other : ∀ p ∈ r, 0 < p.2 → p.1 ≠ u := by
    intro p hp h2 e
    by_cases h0 : k = 0
    · exact hk ⟨h0, e ▸ ((D.fr p (List.mem_cons_of_mem _ hp)).2.2 h2).1⟩
    · exact dis.1 p hp (Nat.pos_of_ne_zero h0) h2 e.symm
  have memO : ∀ x, x ∉ O ++ [u] ↔ x ∉ O ∧ x ≠ u := by
    intro x
    simp
  have grayTop : ∀ g, S' g → g ∉ O → Reach out g u := by
    intro g hg ho
    rcases (hS g).mp hg with a | a
    · exact D.toTop a ho
    · rw [a]
      exact .refl u
  have outS : ∀ y ∈ out u, S' y := by
    intro y hy
    have h := D.ok.1 y (by rw [hl, List.take_length]; exact hy)
    rcases h with a | a
    · exact (hS y).mpr (.inl a)
    · simp at a
  refine ⟨?_, ?_, ?_, chain.2, ?_, ?_, ?_, ?_, dis.2, ?_⟩
  · intro x hx
    rcases List.mem_append.mp hx with a | a
    · exact (hS x).mpr (.inl (D.sub x a))
    · exact (hS x).mpr (.inr (by simpa using a))
  · intro p hp
    obtain ⟨a, b, c⟩ := D.fr p (List.mem_cons_of_mem _ hp)
    exact ⟨a, b, fun h => ⟨(hS _).mpr (.inl (c h).1), (memO _).mpr ⟨(c h).2, other p hp h⟩⟩⟩
  · intro x hx ho
    obtain ⟨h1, h2⟩ := (memO x).mp ho
    rcases (hS x).mp hx with a | a
    · obtain ⟨j, h3, h4⟩ := D.gray x a h1
      rcases List.mem_cons.mp h4 with e | e
      · cases e; exact absurd rfl h2
      · exact ⟨j, h3, e⟩
    · exact absurd a h2
  · intro x hx y hy
    rcases List.mem_append.mp hx with a | a
    · exact (hS y).mpr (.inl (D.clo x a y hy))
    · have e : x = u := by simpa using a
      subst e
      exact outS y hy
  · refine FrOk.mono (fun x h => (hS x).mpr (.inl h)) (fun x hx => ?_) D.ok.2
    have e : x = u := by simpa using hx
    exact .inl ((hS x).mpr (.inr e))
  · intro x hx g hg ho hr
    obtain ⟨h1, h2⟩ := (memO g).mp ho
    have gu := grayTop g hg h1
    rcases List.mem_append.mp hx with a | a
    · obtain ⟨h, b, c, d⟩ := D.meet' hk hS x a g hg h1 hr
      by_cases hu : h = u
      · subst hu
        exact ⟨g, hg, ho, hr, gu.trans d.2⟩
      · exact ⟨h, (hS h).mpr (.inl b), (memO h).mpr ⟨c, hu⟩, d⟩
    · have e : x = u := by simpa using a
      subst e
      exact ⟨g, hg, ho, hr, gu⟩
  · refine D.fin.snoc fun x hx => ?_
    by_cases ho : x ∈ O
    · obtain ⟨h, a, b, c⟩ := D.meet' hk hS x ho u ((hS u).mpr (.inr rfl)) noO hx
      exact ⟨h, c, b⟩
    · exact ⟨x, Sim.refl x, ho⟩
  · intro x hx
    rcases (hS x).mp hx with a | a
    · exact D.sn x a
    · exact a ▸ hun

theorem DI.all (D : DI out ns S O []) {x : α} (h : S x) : x ∈ O := by
  by_cases ho : x ∈ O
  · exact ho
  · obtain ⟨k, _, hk⟩ := D.gray x h ho
    simp at hk

def wsum (A : α → Bool) (f : α → Nat) : List α → Nat
  | [] => 0
  | x :: r => (if A x = true then 0 else f x) + wsum A f r
theorem wsum_mono {A A' : α → Bool} (f : α → Nat) (h : ∀ x, A x = true → A' x = true) : ∀ l : List α, wsum A' f l ≤ wsum A f l
  | [] => Nat.le_refl _
  | x :: r => by
    have ih := wsum_mono f h r
    unfold wsum
    by_cases a : A x = true
    · rw [if_pos a, if_pos (h x a)]
      omega
    · rw [if_neg a]
      by_cases b : A' x = true
      · rw [if_pos b]; omega
      · rw [if_neg b]; omega
theorem wsum_drop {A A' : α → Bool} (f : α → Nat) (h : ∀ x, A x = true → A' x = true) {u : α} (h1 : ¬ A u = true) (h2 : A' u = true) : ∀ {l : List α}, u ∈ l → wsum A' f l + f u ≤ wsum A f l
  | [], m => by cases m
  | x :: r, m => by
    unfold wsum
    by_cases e : x = u
    · subst e
      have ih := wsum_mono f h r
      rw [if_neg h1, if_pos h2]
      omega
    · have ih := wsum_drop f h h1 h2 (l := r) (by
        rcases List.mem_cons.mp m with q | q
        · exact absurd q.symm e
        · exact q)
      by_cases a : A x = true
      · rw [if_pos a, if_pos (h x a)]
        omega
      · rw [if_neg a]
        by_cases b : A' x = true
        · rw [if_pos b]; omega
        · rw [if_neg b]; omega
theorem wsum_le {A : α → Bool} {f : α → Nat} {c : Nat} : ∀ {l : List α}, (∀ x ∈ l, f x ≤ c) → wsum A f l ≤ c * l.length
  | [], _ => Nat.zero_le _
  | x :: r, h => by
    have ih := wsum_le (A := A) (f := f) (l := r) fun y hy => h y (List.mem_cons_of_mem _ hy)
    have hx := h x List.mem_cons_self
    unfold wsum
    rw [List.length_cons, Nat.mul_succ]
    by_cases a : A x = true
    · rw [if_pos a]; omega
    · rw [if_neg a]; omega
def fwt (out : α → List α) (p : α × Nat) : Nat := if p.2 = 0 then 1 else 1 + 2 * ((out p.1).length - p.2)
def fwts (out : α → List α) : List (α × Nat) → Nat
  | [] => 0
  | p :: r => fwt out p + fwts out r
theorem fwts_len (out : α → List α) : ∀ fs : List (α × Nat), fs.length ≤ fwts out fs
  | [] => Nat.le_refl _
  | p :: r => by
    have ih := fwts_len out r
    unfold fwts fwt
    rw [List.length_cons]
    by_cases h : p.2 = 0
    · rw [if_pos h]; omega
    · rw [if_neg h]; omega
def ufw (out : α → List α) (u : α) : Nat := 2 * (out u).length + 1
theorem fwts_cons (out : α → List α) (p : α × Nat) (r : List (α × Nat)) : fwts out (p :: r) = fwt out p + fwts out r := rfl
theorem fwt_zero (out : α → List α) (u : α) : fwt out (u, 0) = 1 := rfl
theorem fwt_succ (out : α → List α) (u : α) (k : Nat) : fwt out (u, k + 1) = 1 + 2 * ((out u).length - (k + 1)) := rfl
theorem mu_push {out : α → List α} {ns : List α} {A A' : α → Bool} {u t : α} {k : Nat} {r : List (α × Nat)} (hk : ¬ (k = 0 ∧ A u = true)) (hA : ∀ x, A' x = true ↔ A x = true ∨ x = u) (hu : u ∈ ns) (hl : k < (out u).length) (h0 : 0 < k → A u = true) :
    wsum A' (ufw out) ns + fwts out ((t, 0) :: (u, k + 1) :: r) + 1 ≤ wsum A (ufw out) ns + fwts out ((u, k) :: r) := by
  have mono : ∀ x, A x = true → A' x = true := fun x h => (hA x).mpr (.inl h)
  rw [fwts_cons, fwts_cons, fwts_cons, fwt_zero, fwt_succ]
  cases k with
  | zero =>
    have na : ¬ A u = true := fun h => hk ⟨rfl, h⟩
    have d := wsum_drop (ufw out) mono na ((hA u).mpr (.inr rfl)) hu
    have e : ufw out u = 2 * (out u).length + 1 := rfl
    rw [fwt_zero]
    omega
  | succ k =>
    have m := wsum_mono (ufw out) mono ns
    rw [fwt_succ]
    omega
theorem mu_fin {out : α → List α} {ns : List α} {A A' : α → Bool} {u : α} {k : Nat} {r : List (α × Nat)} (hA : ∀ x, A' x = true ↔ A x = true ∨ x = u) :
    wsum A' (ufw out) ns + fwts out r + 1 ≤ wsum A (ufw out) ns + fwts out ((u, k) :: r) := by
  have m := wsum_mono (ufw out) (fun x h => (hA x).mpr (.inl h)) ns
  show _ ≤ _ + (fwt out (u, k) + fwts out r)
  unfold fwt
  by_cases hz : (u, k).2 = 0
  · rw [if_pos hz]; omega
  · rw [if_neg hz]; omega
theorem mu_skip {out : α → List α} {u : α} {r : List (α × Nat)} : fwts out r + 1 ≤ fwts out ((u, 0) :: r) := by
  show _ ≤ fwt out (u, 0) + fwts out r
  unfold fwt
  rw [if_pos rfl]
  omega
end
end K42
set_option maxHeartbeats 1000000
set_option linter.all false
namespace K42
section
variable {α : Type} {out : α → List α} {ns : List α}
structure KO (out : α → List α) (ns : List α) (pt : α → Option Int) (c : Int) : Prop where
  lt : ∀ u n, pt u = some n → n < c
  dom : ∀ u, pt u ≠ none → u ∈ ns
  clo : ∀ u v, pt u ≠ none → Sim out u v → pt v ≠ none
  eq : ∀ u v, pt u ≠ none → pt v ≠ none → (pt u = pt v ↔ Sim out u v)
structure KI (out : α → List α) (ns : List α) (pt0 : α → Option Int) (c : Int) (r : α) (pt : α → Option Int) (ls : List α) : Prop where
  ext : ∀ u, pt0 u ≠ none → pt u = pt0 u
  new : ∀ u, pt0 u = none → pt u = none ∨ (pt u = some c ∧ Reach out u r ∧ u ∈ ns)
  line : ∀ x ∈ ls, Reach out x r ∧ x ∈ ns
  back : ∀ x, pt0 x = none → pt x ≠ none → ∀ y ∈ ns, x ∈ out y → y ∈ ls ∨ pt y ≠ none
  root : r ∈ ls ∨ pt r ≠ none
  old : pt0 r ≠ none → pt = pt0 ∧ ∀ x ∈ ls, x = r
theorem KI.start {pt0 : α → Option Int} {c : Int} {r : α} (h : r ∈ ns) : KI out ns pt0 c r pt0 [r] where
  ext := fun _ _ => rfl
  new := fun _ e => .inl e
  line := fun x hx => by
    have e : x = r := by simpa using hx
    subst e
    exact ⟨.refl _, h⟩
  back := fun x e1 e2 => absurd e1 e2
  root := .inl (by simp)
  old := fun _ => ⟨rfl, fun x hx => by simpa using hx⟩
theorem KI.skip {pt0 pt : α → Option Int} {c : Int} {r x : α} {ls : List α} (I : KI out ns pt0 c r pt (ls ++ [x])) (h : pt x ≠ none) : KI out ns pt0 c r pt ls where
  ext := I.ext
  new := I.new
  line := fun y hy => I.line y (List.mem_append_left _ hy)
  back := fun y e1 e2 z hz ho => by
    rcases I.back y e1 e2 z hz ho with a | a
    · rcases List.mem_append.mp a with b | b
      · exact .inl b
      · have e : z = x := by simpa using b
        exact .inr (e ▸ h)
    · exact .inr a
  root := by
    rcases I.root with a | a
    · rcases List.mem_append.mp a with b | b
      · exact .inl b
      · have e : r = x := by simpa using b
        exact .inr (e ▸ h)
    · exact .inr a
  old := fun e => ⟨(I.old e).1, fun y hy => (I.old e).2 y (List.mem_append_left _ hy)⟩
theorem KI.add {pt0 pt pt' : α → Option Int} {c : Int} {r x : α} {ls pr : List α} (I : KI out ns pt0 c r pt (ls ++ [x])) (h : pt x = none) (hp : ∀ u, (u = x ∧ pt' u = some c) ∨ (u ≠ x ∧ pt' u = pt u)) (hpr : ∀ y, y ∈ pr ↔ y ∈ ns ∧ x ∈ out y) :
    KI out ns pt0 c r pt' (ls ++ pr) := by
  have hx := I.line x (by simp)
  have x0 : pt0 x = none := by
    cases e : pt0 x with
    | none => rfl
    | some n =>
      have z := I.ext x (by rw [e]; simp)
      rw [h, e] at z
      cases z
  have noold : ¬ pt0 r ≠ none := fun e => by
    obtain ⟨e1, e2⟩ := I.old e
    have e3 : x = r := e2 x (by simp)
    rw [e3, e1] at h
    exact e h
  have up : ∀ u, pt u ≠ none → pt' u ≠ none := fun u hu => by
    rcases hp u with ⟨e, a⟩ | ⟨e, a⟩
    · rw [a]; simp
    · rw [a]; exact hu
  refine ⟨fun u hu => ?_, fun u hu => ?_, fun y hy => ?_, fun y e1 e2 z hz ho => ?_, ?_, fun e => absurd e noold⟩
  · rcases hp u with ⟨e, a⟩ | ⟨e, a⟩
    · rw [e] at hu
      exact absurd x0 hu
    · rw [a]
      exact I.ext u hu
  · rcases hp u with ⟨e, a⟩ | ⟨e, a⟩
    · exact .inr ⟨a, e ▸ hx.1, e ▸ hx.2⟩
    · rw [a]
      exact I.new u hu
  · rcases List.mem_append.mp hy with a | a
    · exact I.line y (List.mem_append_left _ a)
    · obtain ⟨b1, b2⟩ := (hpr y).mp a
      exact ⟨.step b2 hx.1, b1⟩
  · rcases hp y with ⟨e, a⟩ | ⟨e, a⟩
    · subst e
      exact .inl (List.mem_append_right _ ((hpr z).mpr ⟨hz, ho⟩))
    · rw [a] at e2
      rcases I.back y e1 e2 z hz ho with b | b
      · rcases List.mem_append.mp b with b | b
        · exact .inl (List.mem_append_left _ b)
        · have e3 : z = x := by simpa using b
          subst e3
          rcases hp z with ⟨_, q⟩ | ⟨q, _⟩
          · exact .inr (by rw [q]; simp)
          · exact absurd rfl q
      · exact .inr (up z b)
  · rcases I.root with a | a
    · rcases List.mem_append.mp a with b | b
      · exact .inl (List.mem_append_left _ b)
      · have e3 : r = x := by simpa using b
        rcases hp r with ⟨_, q⟩ | ⟨q, _⟩
        · exact .inr (by rw [q]; simp)
        · exact absurd e3 q
    · exact .inr (up r a)
theorem KI.done {pt0 pt : α → Option Int} {c : Int} {r : α} {O1 O2 : List α} (I : KI out ns pt0 c r pt []) (K : KO out ns pt0 c) (hclo : ∀ u ∈ ns, ∀ v ∈ out u, v ∈ ns) (fin : FinOk out (O1 ++ r :: O2)) (h2 : ∀ u ∈ O2, pt0 u ≠ none) (hall : ∀ u ∈ ns, u ∈ O1 ++ r :: O2) (hr : r ∈ ns) :
    KO out ns pt (if pt r = some c then c + 1 else c) ∧ pt r ≠ none ∧ ∀ u, pt0 u ≠ none → pt u ≠ none := by
  have rn : pt r ≠ none := by
    rcases I.root with a | a
    · cases a
    · exact a
  have up : ∀ u, pt0 u ≠ none → pt u ≠ none := fun u hu => by rw [I.ext u hu]; exact hu
  refine ⟨?_, rn, up⟩
  have nsR : ∀ {u v : α}, Reach out u v → u ∈ ns → v ∈ ns := fun h hu => h.inv (fun x hx y hy => hclo x hx y hy) hu
  by_cases r0 : pt0 r ≠ none
  · obtain ⟨e, _⟩ := I.old r0
    subst e
    have hne : ¬ pt r = some c := fun q => by
      have := K.lt r c q
      omega
    rw [if_neg hne]
    exact K
  · have r0' : pt0 r = none := Classical.byContradiction r0
    have rc : pt r = some c := by
      rcases I.new r r0' with a | a
      · exact absurd a rn
      · exact a.1
    rw [if_pos rc]
    have newSim : ∀ u, pt0 u = none → pt u ≠ none → pt u = some c ∧ Sim out u r := fun u h0 h1 => by
      rcases I.new u h0 with a | ⟨a, b, d⟩
      · exact absurd a h1
      · refine ⟨a, ?_⟩
        obtain ⟨u', s, n1⟩ := fin O1 r O2 rfl u b
        have u'n : u' ∈ ns := nsR s.1 d
        have m := hall u' u'n
        rcases List.mem_append.mp m with q | q
        · exact absurd q n1
        · rcases List.mem_cons.mp q with q | q
          · exact q ▸ s
          · exact absurd h0 (K.clo u' u (h2 u' q) s.symm)
    have key : ∀ u z, Reach out u z → z = r → Reach out r u → pt u ≠ none := by
      intro u z h
      induction h with
      | refl u =>
        intro e _
        rw [e]
        exact rn
      | @step u w z hw h ih =>
        intro e hru
        have hrw : Reach out r w := hru.snoc hw
        have hwz : pt w ≠ none := ih e hrw
        have w0 : pt0 w = none := by
          by_cases q : pt0 w = none
          · exact q
          · exact absurd r0' (K.clo w r q ⟨e ▸ h, hrw⟩)
        rcases I.back w w0 hwz u (nsR hru hr) hw with a | a
        · cases a
        · exact a
    have simNew : ∀ v, Reach out v r → Reach out r v → pt v ≠ none := fun v h1 h2 => key v r h1 rfl h2
    refine ⟨fun u n hu => ?_, fun u hu => ?_, fun u v hu s => ?_, fun u v hu hv => ?_⟩
    · by_cases q : pt0 u = none
      · have e := (newSim u q (by rw [hu]; simp)).1
        rw [hu] at e
        cases e
        omega
      · rw [I.ext u q] at hu
        have := K.lt u n hu
        omega
    · by_cases q : pt0 u = none
      · exact nsR (newSim u q hu).2.2 hr
      · exact K.dom u q
    · by_cases q : pt0 u = none
      · have e := (newSim u q hu).2
        have s2 := s.symm.trans e
        exact simNew v s2.1 s2.2
      · exact up v (K.clo u v q s)
    · by_cases q : pt0 u = none
      · have e1 := newSim u q hu
        by_cases q2 : pt0 v = none
        · have e2 := newSim v q2 hv
          exact ⟨fun _ => e1.2.trans e2.2.symm, fun _ => by rw [e1.1, e2.1]⟩
        · refine ⟨fun e => ?_, fun s => absurd q (K.clo v u q2 s.symm)⟩
          rw [e1.1, I.ext v q2] at e
          have := K.lt v c e.symm
          omega
      · by_cases q2 : pt0 v = none
        · have e2 := newSim v q2 hv
          refine ⟨fun e => ?_, fun s => absurd q2 (K.clo u v q s)⟩
          rw [e2.1, I.ext u q] at e
          have := K.lt u c e
          omega
        · rw [I.ext u q, I.ext v q2]
          exact K.eq u v q q2
end
end K42
set_option Elab.async false
set_option linter.all false
set_option maxRecDepth 100000
set_option maxHeartbeats 4000000
namespace K42
open PySem PySem.Spec PyProof.Rows L2
structure Tp (K : PySem.W.Frag) (mg : Str → Option Value) : Prop where
  says : He.SaysD fa fn K
  at_ : ∃ h : Heap, K.In h ∧ h.Ns mainGlobals mg
section
variable {K : PySem.W.Frag} {mg : Str → Option Value}
theorem Tp.free (T : Tp K mg) (i : Nat) {x : Str} (e : fa[i]? = some (.free x) := by rfl) : mg x = none := by
  obtain ⟨h, X, G⟩ := T.at_
  exact He.free_ok X G (T.says.fact i e)
theorem Tp.glo (T : Tp K mg) (i : Nat) {x : Str} (e : fa[i]? = some (.glo x) := by rfl) : mg x = some (.ref (He.ga K x)) := by
  obtain ⟨h, X, G⟩ := T.at_
  exact He.glo_ok X G (T.says.fact i e)
theorem Tp.int (T : Tp K mg) (i : Nat) {x : Str} {n : Int} (e : fa[i]? = some (.int x n) := by rfl) : ∃ t, mg x = some (.int n t) := by
  obtain ⟨h, X, G⟩ := T.at_
  exact He.int_ok X G (T.says.fact i e)
theorem Tp.str (T : Tp K mg) (i : Nat) {x z : Str} (e : fa[i]? = some (.str x z) := by rfl) : ∃ t, mg x = some (.str z t) := by
  obtain ⟨h, X, G⟩ := T.at_
  exact He.str_ok X G (T.says.fact i e)
theorem Tp.g_finish_order (T : Tp K mg) : mg "finish_order" = some (.ref (He.ga K "finish_order")) := T.glo 0
theorem Tp.g_strong_parts (T : Tp K mg) : mg "strong_parts" = some (.ref (He.ga K "strong_parts")) := T.glo 1
theorem Tp.g_path_between (T : Tp K mg) : mg "path_between" = some (.ref (He.ga K "path_between")) := T.glo 2
theorem Tp.g_passes (T : Tp K mg) : mg "passes" = some (.ref (He.ga K "passes")) := T.glo 3
theorem Tp.g_closed_walk (T : Tp K mg) : mg "closed_walk" = some (.ref (He.ga K "closed_walk")) := T.glo 4
theorem Tp.g_cycle_through (T : Tp K mg) : mg "cycle_through" = some (.ref (He.ga K "cycle_through")) := T.glo 5
theorem Tp.g_bounded (T : Tp K mg) : mg "bounded" = some (.ref (He.ga K "bounded")) := T.glo 6
theorem Tp.g_cycle_with (T : Tp K mg) : mg "cycle_with" = some (.ref (He.ga K "cycle_with")) := T.glo 7
theorem Tp.g_is_alphabet (T : Tp K mg) : mg "is_alphabet" = some (.ref (He.ga K "is_alphabet")) := T.glo 8
theorem Tp.g_need_alphabet (T : Tp K mg) : mg "need_alphabet" = some (.ref (He.ga K "need_alphabet")) := T.glo 9
theorem Tp.g_is_state (T : Tp K mg) : mg "is_state" = some (.ref (He.ga K "is_state")) := T.glo 10
theorem Tp.g_shortest_cycle (T : Tp K mg) : mg "shortest_cycle" = some (.ref (He.ga K "shortest_cycle")) := T.glo 11
theorem Tp.g_shortened (T : Tp K mg) : mg "shortened" = some (.ref (He.ga K "shortened")) := T.glo 12
theorem Tp.g_row_along (T : Tp K mg) : mg "row_along" = some (.ref (He.ga K "row_along")) := T.glo 13
theorem Tp.g_is_answer (T : Tp K mg) : mg "is_answer" = some (.ref (He.ga K "is_answer")) := T.glo 14
theorem Tp.g_is_challenge (T : Tp K mg) : mg "is_challenge" = some (.ref (He.ga K "is_challenge")) := T.glo 15
theorem Tp.g_need_letters (T : Tp K mg) : mg "need_letters" = some (.ref (He.ga K "need_letters")) := T.glo 16
theorem Tp.g_translator_edges (T : Tp K mg) : mg "translator_edges" = some (.ref (He.ga K "translator_edges")) := T.glo 17
theorem Tp.g_opponent_edges (T : Tp K mg) : mg "opponent_edges" = some (.ref (He.ga K "opponent_edges")) := T.glo 18
theorem Tp.g_parity_fault (T : Tp K mg) : mg "parity_fault" = some (.ref (He.ga K "parity_fault")) := T.glo 19
theorem Tp.g_check_translator (T : Tp K mg) : mg "check_translator" = some (.ref (He.ga K "check_translator")) := T.glo 20
theorem Tp.g_check_opponent (T : Tp K mg) : mg "check_opponent" = some (.ref (He.ga K "check_opponent")) := T.glo 21
theorem Tp.g_law_output (T : Tp K mg) : mg "_law_output" = some (.ref (He.ga K "_law_output")) := T.glo 22
theorem Tp.g_law_normal (T : Tp K mg) : mg "_law_normal" = some (.ref (He.ga K "_law_normal")) := T.glo 23
theorem Tp.g_law_image (T : Tp K mg) : mg "_law_image" = some (.ref (He.ga K "_law_image")) := T.glo 24
theorem Tp.g_law_step (T : Tp K mg) : mg "_law_step" = some (.ref (He.ga K "_law_step")) := T.glo 25
theorem Tp.g_law_after (T : Tp K mg) : mg "_law_after" = some (.ref (He.ga K "_law_after")) := T.glo 26
theorem Tp.g_law_accepts (T : Tp K mg) : mg "_law_accepts" = some (.ref (He.ga K "_law_accepts")) := T.glo 27
theorem Tp.g_law_written (T : Tp K mg) : mg "_law_written" = some (.ref (He.ga K "_law_written")) := T.glo 28
theorem Tp.g_law_against (T : Tp K mg) : mg "_law_against" = some (.ref (He.ga K "_law_against")) := T.glo 29
theorem Tp.g_law_bag (T : Tp K mg) : mg "_law_bag" = some (.ref (He.ga K "_law_bag")) := T.glo 30
theorem Tp.g_law_pull (T : Tp K mg) : mg "_law_pull" = some (.ref (He.ga K "_law_pull")) := T.glo 31
theorem Tp.g_law_of (T : Tp K mg) : mg "_law_of" = some (.ref (He.ga K "_law_of")) := T.glo 32
theorem Tp.g_law_letters (T : Tp K mg) : mg "_law_letters" = some (.ref (He.ga K "_law_letters")) := T.glo 33
theorem Tp.g_law_raw (T : Tp K mg) : mg "_law_raw" = some (.ref (He.ga K "_law_raw")) := T.glo 34
theorem Tp.g_law_made (T : Tp K mg) : mg "_law_made" = some (.ref (He.ga K "_law_made")) := T.glo 35
theorem Tp.g_law_translator (T : Tp K mg) : mg "_law_translator" = some (.ref (He.ga K "_law_translator")) := T.glo 36
theorem Tp.g_law_told (T : Tp K mg) : mg "_law_told" = some (.ref (He.ga K "_law_told")) := T.glo 37
theorem Tp.g_law_opponent (T : Tp K mg) : mg "_law_opponent" = some (.ref (He.ga K "_law_opponent")) := T.glo 38
theorem Tp.g_law_rival (T : Tp K mg) : mg "_law_rival" = some (.ref (He.ga K "_law_rival")) := T.glo 39
theorem Tp.g_law_translator_fault (T : Tp K mg) : mg "_law_translator_fault" = some (.ref (He.ga K "_law_translator_fault")) := T.glo 40
theorem Tp.g_law_answer_row (T : Tp K mg) : mg "_law_answer_row" = some (.ref (He.ga K "_law_answer_row")) := T.glo 41
theorem Tp.g_law_opponent_fault (T : Tp K mg) : mg "_law_opponent_fault" = some (.ref (He.ga K "_law_opponent_fault")) := T.glo 42
theorem Tp.g_law (T : Tp K mg) : mg "law" = some (.ref (He.ga K "law")) := T.glo 43
theorem Tp.g_Machine (T : Tp K mg) : mg "Machine" = some (.ref (He.ga K "Machine")) := T.glo 44
theorem Tp.g_Translator (T : Tp K mg) : mg "Translator" = some (.ref (He.ga K "Translator")) := T.glo 45
theorem Tp.g_Opponent (T : Tp K mg) : mg "Opponent" = some (.ref (He.ga K "Opponent")) := T.glo 46
theorem Tp.b_len (T : Tp K mg) : mg "len" = none := T.free 47
theorem Tp.b_all (T : Tp K mg) : mg "all" = none := T.free 48
theorem Tp.b_range (T : Tp K mg) : mg "range" = none := T.free 49
theorem Tp.b_tuple (T : Tp K mg) : mg "tuple" = none := T.free 50
theorem Tp.b_list (T : Tp K mg) : mg "list" = none := T.free 51
theorem Tp.b_enumerate (T : Tp K mg) : mg "enumerate" = none := T.free 52
theorem Tp.b_sorted (T : Tp K mg) : mg "sorted" = none := T.free 53
theorem Tp.b_int (T : Tp K mg) : mg "int" = none := T.free 54
theorem Tp.b_max (T : Tp K mg) : mg "max" = none := T.free 55
theorem Tp.b_isinstance (T : Tp K mg) : mg "isinstance" = none := T.free 56
theorem Tp.MAX_LETTERS (T : Tp K mg) : ∃ t, mg "MAX_LETTERS" = some (.int (3) t) := T.int 57
theorem Tp.MAX_STATES (T : Tp K mg) : ∃ t, mg "MAX_STATES" = some (.int (5) t) := T.int 58
theorem Tp.MAX_PRIORITY (T : Tp K mg) : ∃ t, mg "MAX_PRIORITY" = some (.int (3) t) := T.int 59
theorem Tp.NONE (T : Tp K mg) : ∃ t, mg "NONE" = some (.int (-1) t) := T.int 60
theorem Tp.LOWERCASE (T : Tp K mg) : ∃ t, mg "LOWERCASE" = some (.str "abcdefghijklmnopqrstuvwxyz" t) := T.str 61
theorem Tp.WAIT (T : Tp K mg) : ∃ t, mg "WAIT" = some (.str "-" t) := T.str 62
theorem Tp.cl_Machine (T : Tp K mg) : Cls K (He.ga K "Machine") := He.cls_ok (T.says.fact 63)
theorem Tp.mk_Machine (T : Tp K mg) : Mk K (He.ga K "Machine") (He.ma K (He.ga K "Machine") "__init__") := He.mkr_ok (T.says.fact 64)
theorem Tp.no_Machine_alphabet (T : Tp K mg) : NoAttr K (He.ga K "Machine") "alphabet" := He.noat_ok (T.says.fact 65)
theorem Tp.no_Machine_table (T : Tp K mg) : NoAttr K (He.ga K "Machine") "table" := He.noat_ok (T.says.fact 66)
theorem Tp.no_Machine_first (T : Tp K mg) : NoAttr K (He.ga K "Machine") "first" := He.noat_ok (T.says.fact 67)
theorem Tp.me_Machine_letters (T : Tp K mg) : Meth K (He.ga K "Machine") "letters" (He.ma K (He.ga K "Machine") "letters") := He.meth_ok (T.says.fact 68)
theorem Tp.me_Machine_start (T : Tp K mg) : Meth K (He.ga K "Machine") "start" (He.ma K (He.ga K "Machine") "start") := He.meth_ok (T.says.fact 69)
theorem Tp.me_Machine_step (T : Tp K mg) : Meth K (He.ga K "Machine") "step" (He.ma K (He.ga K "Machine") "step") := He.meth_ok (T.says.fact 70)
theorem Tp.cl_Translator (T : Tp K mg) : Cls K (He.ga K "Translator") := He.cls_ok (T.says.fact 71)
theorem Tp.mk_Translator (T : Tp K mg) : Mk K (He.ga K "Translator") (He.ma K (He.ga K "Translator") "__init__") := He.mkr_ok (T.says.fact 72)
theorem Tp.no_Translator_inputs (T : Tp K mg) : NoAttr K (He.ga K "Translator") "inputs" := He.noat_ok (T.says.fact 73)
theorem Tp.no_Translator_outputs (T : Tp K mg) : NoAttr K (He.ga K "Translator") "outputs" := He.noat_ok (T.says.fact 74)
theorem Tp.no_Translator_table (T : Tp K mg) : NoAttr K (He.ga K "Translator") "table" := He.noat_ok (T.says.fact 75)
theorem Tp.no_Translator_first (T : Tp K mg) : NoAttr K (He.ga K "Translator") "first" := He.noat_ok (T.says.fact 76)
theorem Tp.me_Translator_source (T : Tp K mg) : Meth K (He.ga K "Translator") "source" (He.ma K (He.ga K "Translator") "source") := He.meth_ok (T.says.fact 77)
theorem Tp.me_Translator_target (T : Tp K mg) : Meth K (He.ga K "Translator") "target" (He.ma K (He.ga K "Translator") "target") := He.meth_ok (T.says.fact 78)
theorem Tp.me_Translator_states (T : Tp K mg) : Meth K (He.ga K "Translator") "states" (He.ma K (He.ga K "Translator") "states") := He.meth_ok (T.says.fact 79)
theorem Tp.me_Translator_start (T : Tp K mg) : Meth K (He.ga K "Translator") "start" (He.ma K (He.ga K "Translator") "start") := He.meth_ok (T.says.fact 80)
theorem Tp.me_Translator_step (T : Tp K mg) : Meth K (He.ga K "Translator") "step" (He.ma K (He.ga K "Translator") "step") := He.meth_ok (T.says.fact 81)
theorem Tp.cl_Opponent (T : Tp K mg) : Cls K (He.ga K "Opponent") := He.cls_ok (T.says.fact 82)
theorem Tp.mk_Opponent (T : Tp K mg) : Mk K (He.ga K "Opponent") (He.ma K (He.ga K "Opponent") "__init__") := He.mkr_ok (T.says.fact 83)
theorem Tp.no_Opponent_written_letters (T : Tp K mg) : NoAttr K (He.ga K "Opponent") "written_letters" := He.noat_ok (T.says.fact 84)
theorem Tp.no_Opponent_answer_letters (T : Tp K mg) : NoAttr K (He.ga K "Opponent") "answer_letters" := He.noat_ok (T.says.fact 85)
theorem Tp.no_Opponent_table (T : Tp K mg) : NoAttr K (He.ga K "Opponent") "table" := He.noat_ok (T.says.fact 86)
theorem Tp.no_Opponent_first (T : Tp K mg) : NoAttr K (He.ga K "Opponent") "first" := He.noat_ok (T.says.fact 87)
theorem Tp.me_Opponent_source (T : Tp K mg) : Meth K (He.ga K "Opponent") "source" (He.ma K (He.ga K "Opponent") "source") := He.meth_ok (T.says.fact 88)
theorem Tp.me_Opponent_target (T : Tp K mg) : Meth K (He.ga K "Opponent") "target" (He.ma K (He.ga K "Opponent") "target") := He.meth_ok (T.says.fact 89)
theorem Tp.me_Opponent_states (T : Tp K mg) : Meth K (He.ga K "Opponent") "states" (He.ma K (He.ga K "Opponent") "states") := He.meth_ok (T.says.fact 90)
theorem Tp.me_Opponent_start (T : Tp K mg) : Meth K (He.ga K "Opponent") "start" (He.ma K (He.ga K "Opponent") "start") := He.meth_ok (T.says.fact 91)
theorem Tp.me_Opponent_letter (T : Tp K mg) : Meth K (He.ga K "Opponent") "letter" (He.ma K (He.ga K "Opponent") "letter") := He.meth_ok (T.says.fact 92)
theorem Tp.me_Opponent_move (T : Tp K mg) : Meth K (He.ga K "Opponent") "move" (He.ma K (He.ga K "Opponent") "move") := He.meth_ok (T.says.fact 93)
theorem Tp.fd_g_finish_order (T : Tp K mg) : ∃ fd, FunD K "finish_order" "finish_order" (defArgs s_g_finish_order) (defBody s_g_finish_order) (defScope s_g_finish_order) [] [] (He.ga K "finish_order") fd := T.says.def_ 0 (d := d_g_finish_order)
theorem Tp.fd_g_strong_parts (T : Tp K mg) : ∃ fd, FunD K "strong_parts" "strong_parts" (defArgs s_g_strong_parts) (defBody s_g_strong_parts) (defScope s_g_strong_parts) [] [] (He.ga K "strong_parts") fd := T.says.def_ 1 (d := d_g_strong_parts)
theorem Tp.fd_g_path_between (T : Tp K mg) : ∃ fd, FunD K "path_between" "path_between" (defArgs s_g_path_between) (defBody s_g_path_between) (defScope s_g_path_between) [] [] (He.ga K "path_between") fd := T.says.def_ 2 (d := d_g_path_between)
theorem Tp.fd_g_passes (T : Tp K mg) : ∃ fd, FunD K "passes" "passes" (defArgs s_g_passes) (defBody s_g_passes) (defScope s_g_passes) [] [] (He.ga K "passes") fd := T.says.def_ 3 (d := d_g_passes)
theorem Tp.fd_g_closed_walk (T : Tp K mg) : ∃ fd, FunD K "closed_walk" "closed_walk" (defArgs s_g_closed_walk) (defBody s_g_closed_walk) (defScope s_g_closed_walk) [] [] (He.ga K "closed_walk") fd := T.says.def_ 4 (d := d_g_closed_walk)
theorem Tp.fd_g_cycle_through (T : Tp K mg) : ∃ fd, FunD K "cycle_through" "cycle_through" (defArgs s_g_cycle_through) (defBody s_g_cycle_through) (defScope s_g_cycle_through) [] [] (He.ga K "cycle_through") fd := T.says.def_ 5 (d := d_g_cycle_through)
theorem Tp.fd_g_bounded (T : Tp K mg) : ∃ fd, FunD K "bounded" "bounded" (defArgs s_g_bounded) (defBody s_g_bounded) (defScope s_g_bounded) [] [] (He.ga K "bounded") fd := T.says.def_ 6 (d := d_g_bounded)
theorem Tp.fd_g_cycle_with (T : Tp K mg) : ∃ fd, FunD K "cycle_with" "cycle_with" (defArgs s_g_cycle_with) (defBody s_g_cycle_with) (defScope s_g_cycle_with) [] [] (He.ga K "cycle_with") fd := T.says.def_ 7 (d := d_g_cycle_with)
theorem Tp.fd_g_is_alphabet (T : Tp K mg) : ∃ fd, FunD K "is_alphabet" "is_alphabet" (defArgs s_g_is_alphabet) (defBody s_g_is_alphabet) (defScope s_g_is_alphabet) [] [] (He.ga K "is_alphabet") fd := T.says.def_ 8 (d := d_g_is_alphabet)
theorem Tp.fd_g_need_alphabet (T : Tp K mg) : ∃ fd, FunD K "need_alphabet" "need_alphabet" (defArgs s_g_need_alphabet) (defBody s_g_need_alphabet) (defScope s_g_need_alphabet) [] [] (He.ga K "need_alphabet") fd := T.says.def_ 9 (d := d_g_need_alphabet)
theorem Tp.fd_g_is_state (T : Tp K mg) : ∃ fd, FunD K "is_state" "is_state" (defArgs s_g_is_state) (defBody s_g_is_state) (defScope s_g_is_state) [] [] (He.ga K "is_state") fd := T.says.def_ 10 (d := d_g_is_state)
theorem Tp.fd_g_shortest_cycle (T : Tp K mg) : ∃ fd, FunD K "shortest_cycle" "shortest_cycle" (defArgs s_g_shortest_cycle) (defBody s_g_shortest_cycle) (defScope s_g_shortest_cycle) [] [] (He.ga K "shortest_cycle") fd := T.says.def_ 11 (d := d_g_shortest_cycle)
theorem Tp.fd_g_shortened (T : Tp K mg) : ∃ fd, FunD K "shortened" "shortened" (defArgs s_g_shortened) (defBody s_g_shortened) (defScope s_g_shortened) [] [] (He.ga K "shortened") fd := T.says.def_ 12 (d := d_g_shortened)
theorem Tp.fd_g_row_along (T : Tp K mg) : ∃ fd, FunD K "row_along" "row_along" (defArgs s_g_row_along) (defBody s_g_row_along) (defScope s_g_row_along) [] [] (He.ga K "row_along") fd := T.says.def_ 13 (d := d_g_row_along)
theorem Tp.fd_g_is_answer (T : Tp K mg) : ∃ fd, FunD K "is_answer" "is_answer" (defArgs s_g_is_answer) (defBody s_g_is_answer) (defScope s_g_is_answer) [] [] (He.ga K "is_answer") fd := T.says.def_ 14 (d := d_g_is_answer)
theorem Tp.fd_g_is_challenge (T : Tp K mg) : ∃ fd, FunD K "is_challenge" "is_challenge" (defArgs s_g_is_challenge) (defBody s_g_is_challenge) (defScope s_g_is_challenge) [] [] (He.ga K "is_challenge") fd := T.says.def_ 15 (d := d_g_is_challenge)
theorem Tp.fd_g_need_letters (T : Tp K mg) : ∃ fd, FunD K "need_letters" "need_letters" (defArgs s_g_need_letters) (defBody s_g_need_letters) (defScope s_g_need_letters) [] [] (He.ga K "need_letters") fd := T.says.def_ 16 (d := d_g_need_letters)
theorem Tp.fd_g_translator_edges (T : Tp K mg) : ∃ fd, FunD K "translator_edges" "translator_edges" (defArgs s_g_translator_edges) (defBody s_g_translator_edges) (defScope s_g_translator_edges) [] [] (He.ga K "translator_edges") fd := T.says.def_ 17 (d := d_g_translator_edges)
theorem Tp.fd_g_opponent_edges (T : Tp K mg) : ∃ fd, FunD K "opponent_edges" "opponent_edges" (defArgs s_g_opponent_edges) (defBody s_g_opponent_edges) (defScope s_g_opponent_edges) [] [] (He.ga K "opponent_edges") fd := T.says.def_ 18 (d := d_g_opponent_edges)
theorem Tp.fd_g_parity_fault (T : Tp K mg) : ∃ fd, FunD K "parity_fault" "parity_fault" (defArgs s_g_parity_fault) (defBody s_g_parity_fault) (defScope s_g_parity_fault) [] [] (He.ga K "parity_fault") fd := T.says.def_ 19 (d := d_g_parity_fault)
theorem Tp.fd_g_check_translator (T : Tp K mg) : ∃ fd, FunD K "check_translator" "check_translator" (defArgs s_g_check_translator) (defBody s_g_check_translator) (defScope s_g_check_translator) [] [("opposite", V.bl false)] (He.ga K "check_translator") fd := T.says.def_ 20 (d := d_g_check_translator)
theorem Tp.fd_g_check_opponent (T : Tp K mg) : ∃ fd, FunD K "check_opponent" "check_opponent" (defArgs s_g_check_opponent) (defBody s_g_check_opponent) (defScope s_g_check_opponent) [] [("waits", V.bl true)] (He.ga K "check_opponent") fd := T.says.def_ 21 (d := d_g_check_opponent)
theorem Tp.fd_g_law_output (T : Tp K mg) : ∃ fd, FunD K "_law_output" "_law_output" (defArgs s_g_law_output) (defBody s_g_law_output) (defScope s_g_law_output) [] [] (He.ga K "_law_output") fd := T.says.def_ 22 (d := d_g_law_output)
theorem Tp.fd_g_law_normal (T : Tp K mg) : ∃ fd, FunD K "_law_normal" "_law_normal" (defArgs s_g_law_normal) (defBody s_g_law_normal) (defScope s_g_law_normal) [] [] (He.ga K "_law_normal") fd := T.says.def_ 23 (d := d_g_law_normal)
theorem Tp.fd_g_law_image (T : Tp K mg) : ∃ fd, FunD K "_law_image" "_law_image" (defArgs s_g_law_image) (defBody s_g_law_image) (defScope s_g_law_image) [] [] (He.ga K "_law_image") fd := T.says.def_ 24 (d := d_g_law_image)
theorem Tp.fd_g_law_step (T : Tp K mg) : ∃ fd, FunD K "_law_step" "_law_step" (defArgs s_g_law_step) (defBody s_g_law_step) (defScope s_g_law_step) [] [] (He.ga K "_law_step") fd := T.says.def_ 25 (d := d_g_law_step)
theorem Tp.fd_g_law_after (T : Tp K mg) : ∃ fd, FunD K "_law_after" "_law_after" (defArgs s_g_law_after) (defBody s_g_law_after) (defScope s_g_law_after) [] [] (He.ga K "_law_after") fd := T.says.def_ 26 (d := d_g_law_after)
theorem Tp.fd_g_law_accepts (T : Tp K mg) : ∃ fd, FunD K "_law_accepts" "_law_accepts" (defArgs s_g_law_accepts) (defBody s_g_law_accepts) (defScope s_g_law_accepts) [] [] (He.ga K "_law_accepts") fd := T.says.def_ 27 (d := d_g_law_accepts)
theorem Tp.fd_g_law_written (T : Tp K mg) : ∃ fd, FunD K "_law_written" "_law_written" (defArgs s_g_law_written) (defBody s_g_law_written) (defScope s_g_law_written) [] [] (He.ga K "_law_written") fd := T.says.def_ 28 (d := d_g_law_written)
theorem Tp.fd_g_law_against (T : Tp K mg) : ∃ fd, FunD K "_law_against" "_law_against" (defArgs s_g_law_against) (defBody s_g_law_against) (defScope s_g_law_against) [] [] (He.ga K "_law_against") fd := T.says.def_ 29 (d := d_g_law_against)
theorem Tp.fd_g_law_bag (T : Tp K mg) : ∃ fd, FunD K "_law_bag" "_law_bag" (defArgs s_g_law_bag) (defBody s_g_law_bag) (defScope s_g_law_bag) [] [] (He.ga K "_law_bag") fd := T.says.def_ 30 (d := d_g_law_bag)
theorem Tp.fd_g_law_pull (T : Tp K mg) : ∃ fd, FunD K "_law_pull" "_law_pull" (defArgs s_g_law_pull) (defBody s_g_law_pull) (defScope s_g_law_pull) [] [] (He.ga K "_law_pull") fd := T.says.def_ 31 (d := d_g_law_pull)
theorem Tp.fd_g_law_of (T : Tp K mg) : ∃ fd, FunD K "_law_of" "_law_of" (defArgs s_g_law_of) (defBody s_g_law_of) (defScope s_g_law_of) [] [] (He.ga K "_law_of") fd := T.says.def_ 32 (d := d_g_law_of)
theorem Tp.fd_g_law_letters (T : Tp K mg) : ∃ fd, FunD K "_law_letters" "_law_letters" (defArgs s_g_law_letters) (defBody s_g_law_letters) (defScope s_g_law_letters) [] [] (He.ga K "_law_letters") fd := T.says.def_ 33 (d := d_g_law_letters)
theorem Tp.fd_g_law_raw (T : Tp K mg) : ∃ fd, FunD K "_law_raw" "_law_raw" (defArgs s_g_law_raw) (defBody s_g_law_raw) (defScope s_g_law_raw) [] [] (He.ga K "_law_raw") fd := T.says.def_ 34 (d := d_g_law_raw)
theorem Tp.fd_g_law_made (T : Tp K mg) : ∃ fd, FunD K "_law_made" "_law_made" (defArgs s_g_law_made) (defBody s_g_law_made) (defScope s_g_law_made) [] [] (He.ga K "_law_made") fd := T.says.def_ 35 (d := d_g_law_made)
theorem Tp.fd_g_law_translator (T : Tp K mg) : ∃ fd, FunD K "_law_translator" "_law_translator" (defArgs s_g_law_translator) (defBody s_g_law_translator) (defScope s_g_law_translator) [] [] (He.ga K "_law_translator") fd := T.says.def_ 36 (d := d_g_law_translator)
theorem Tp.fd_g_law_told (T : Tp K mg) : ∃ fd, FunD K "_law_told" "_law_told" (defArgs s_g_law_told) (defBody s_g_law_told) (defScope s_g_law_told) [] [] (He.ga K "_law_told") fd := T.says.def_ 37 (d := d_g_law_told)
theorem Tp.fd_g_law_opponent (T : Tp K mg) : ∃ fd, FunD K "_law_opponent" "_law_opponent" (defArgs s_g_law_opponent) (defBody s_g_law_opponent) (defScope s_g_law_opponent) [] [] (He.ga K "_law_opponent") fd := T.says.def_ 38 (d := d_g_law_opponent)
theorem Tp.fd_g_law_rival (T : Tp K mg) : ∃ fd, FunD K "_law_rival" "_law_rival" (defArgs s_g_law_rival) (defBody s_g_law_rival) (defScope s_g_law_rival) [] [] (He.ga K "_law_rival") fd := T.says.def_ 39 (d := d_g_law_rival)
theorem Tp.fd_g_law_translator_fault (T : Tp K mg) : ∃ fd, FunD K "_law_translator_fault" "_law_translator_fault" (defArgs s_g_law_translator_fault) (defBody s_g_law_translator_fault) (defScope s_g_law_translator_fault) [] [] (He.ga K "_law_translator_fault") fd := T.says.def_ 40 (d := d_g_law_translator_fault)
theorem Tp.fd_g_law_answer_row (T : Tp K mg) : ∃ fd, FunD K "_law_answer_row" "_law_answer_row" (defArgs s_g_law_answer_row) (defBody s_g_law_answer_row) (defScope s_g_law_answer_row) [] [] (He.ga K "_law_answer_row") fd := T.says.def_ 41 (d := d_g_law_answer_row)
theorem Tp.fd_g_law_opponent_fault (T : Tp K mg) : ∃ fd, FunD K "_law_opponent_fault" "_law_opponent_fault" (defArgs s_g_law_opponent_fault) (defBody s_g_law_opponent_fault) (defScope s_g_law_opponent_fault) [] [] (He.ga K "_law_opponent_fault") fd := T.says.def_ 42 (d := d_g_law_opponent_fault)
theorem Tp.fd_g_law (T : Tp K mg) : ∃ fd, FunD K "law" "law" (defArgs s_g_law) (defBody s_g_law) (defScope s_g_law) [] [] (He.ga K "law") fd := T.says.def_ 43 (d := d_g_law)
theorem Tp.fd_m_Machine_init (T : Tp K mg) : ∃ fd, FunD K "__init__" "Machine.__init__" (defArgs s_m_Machine_init) (defBody s_m_Machine_init) (defScope s_m_Machine_init) [] [("start", V.int 0)] (He.ma K (He.ga K "Machine") "__init__") fd := T.says.def_ 44 (d := d_m_Machine_init)
theorem Tp.fd_m_Machine_letters (T : Tp K mg) : ∃ fd, FunD K "letters" "Machine.letters" (defArgs s_m_Machine_letters) (defBody s_m_Machine_letters) (defScope s_m_Machine_letters) [] [] (He.ma K (He.ga K "Machine") "letters") fd := T.says.def_ 45 (d := d_m_Machine_letters)
theorem Tp.fd_m_Machine_start (T : Tp K mg) : ∃ fd, FunD K "start" "Machine.start" (defArgs s_m_Machine_start) (defBody s_m_Machine_start) (defScope s_m_Machine_start) [] [] (He.ma K (He.ga K "Machine") "start") fd := T.says.def_ 46 (d := d_m_Machine_start)
theorem Tp.fd_m_Machine_step (T : Tp K mg) : ∃ fd, FunD K "step" "Machine.step" (defArgs s_m_Machine_step) (defBody s_m_Machine_step) (defScope s_m_Machine_step) [] [] (He.ma K (He.ga K "Machine") "step") fd := T.says.def_ 47 (d := d_m_Machine_step)
theorem Tp.fd_m_Translator_init (T : Tp K mg) : ∃ fd, FunD K "__init__" "Translator.__init__" (defArgs s_m_Translator_init) (defBody s_m_Translator_init) (defScope s_m_Translator_init) [] [("start", V.int 0)] (He.ma K (He.ga K "Translator") "__init__") fd := T.says.def_ 48 (d := d_m_Translator_init)
theorem Tp.fd_m_Translator_source (T : Tp K mg) : ∃ fd, FunD K "source" "Translator.source" (defArgs s_m_Translator_source) (defBody s_m_Translator_source) (defScope s_m_Translator_source) [] [] (He.ma K (He.ga K "Translator") "source") fd := T.says.def_ 49 (d := d_m_Translator_source)
theorem Tp.fd_m_Translator_target (T : Tp K mg) : ∃ fd, FunD K "target" "Translator.target" (defArgs s_m_Translator_target) (defBody s_m_Translator_target) (defScope s_m_Translator_target) [] [] (He.ma K (He.ga K "Translator") "target") fd := T.says.def_ 50 (d := d_m_Translator_target)
theorem Tp.fd_m_Translator_states (T : Tp K mg) : ∃ fd, FunD K "states" "Translator.states" (defArgs s_m_Translator_states) (defBody s_m_Translator_states) (defScope s_m_Translator_states) [] [] (He.ma K (He.ga K "Translator") "states") fd := T.says.def_ 51 (d := d_m_Translator_states)
theorem Tp.fd_m_Translator_start (T : Tp K mg) : ∃ fd, FunD K "start" "Translator.start" (defArgs s_m_Translator_start) (defBody s_m_Translator_start) (defScope s_m_Translator_start) [] [] (He.ma K (He.ga K "Translator") "start") fd := T.says.def_ 52 (d := d_m_Translator_start)
theorem Tp.fd_m_Translator_step (T : Tp K mg) : ∃ fd, FunD K "step" "Translator.step" (defArgs s_m_Translator_step) (defBody s_m_Translator_step) (defScope s_m_Translator_step) [] [] (He.ma K (He.ga K "Translator") "step") fd := T.says.def_ 53 (d := d_m_Translator_step)
theorem Tp.fd_m_Opponent_init (T : Tp K mg) : ∃ fd, FunD K "__init__" "Opponent.__init__" (defArgs s_m_Opponent_init) (defBody s_m_Opponent_init) (defScope s_m_Opponent_init) [] [("start", V.int 0)] (He.ma K (He.ga K "Opponent") "__init__") fd := T.says.def_ 54 (d := d_m_Opponent_init)
theorem Tp.fd_m_Opponent_source (T : Tp K mg) : ∃ fd, FunD K "source" "Opponent.source" (defArgs s_m_Opponent_source) (defBody s_m_Opponent_source) (defScope s_m_Opponent_source) [] [] (He.ma K (He.ga K "Opponent") "source") fd := T.says.def_ 55 (d := d_m_Opponent_source)
theorem Tp.fd_m_Opponent_target (T : Tp K mg) : ∃ fd, FunD K "target" "Opponent.target" (defArgs s_m_Opponent_target) (defBody s_m_Opponent_target) (defScope s_m_Opponent_target) [] [] (He.ma K (He.ga K "Opponent") "target") fd := T.says.def_ 56 (d := d_m_Opponent_target)
theorem Tp.fd_m_Opponent_states (T : Tp K mg) : ∃ fd, FunD K "states" "Opponent.states" (defArgs s_m_Opponent_states) (defBody s_m_Opponent_states) (defScope s_m_Opponent_states) [] [] (He.ma K (He.ga K "Opponent") "states") fd := T.says.def_ 57 (d := d_m_Opponent_states)
theorem Tp.fd_m_Opponent_start (T : Tp K mg) : ∃ fd, FunD K "start" "Opponent.start" (defArgs s_m_Opponent_start) (defBody s_m_Opponent_start) (defScope s_m_Opponent_start) [] [] (He.ma K (He.ga K "Opponent") "start") fd := T.says.def_ 58 (d := d_m_Opponent_start)
theorem Tp.fd_m_Opponent_letter (T : Tp K mg) : ∃ fd, FunD K "letter" "Opponent.letter" (defArgs s_m_Opponent_letter) (defBody s_m_Opponent_letter) (defScope s_m_Opponent_letter) [] [] (He.ma K (He.ga K "Opponent") "letter") fd := T.says.def_ 59 (d := d_m_Opponent_letter)
theorem Tp.fd_m_Opponent_move (T : Tp K mg) : ∃ fd, FunD K "move" "Opponent.move" (defArgs s_m_Opponent_move) (defBody s_m_Opponent_move) (defScope s_m_Opponent_move) [] [] (He.ma K (He.ga K "Opponent") "move") fd := T.says.def_ 60 (d := d_m_Opponent_move)
end
section
variable (P : Program) (w : World) (K : PySem.W.Frag) (mg : Str → Option Value) (base : Heap)
structure GOk (x : Str) (k : Nat) (ps : List Str) (sp : Sp) : Prop where
  ex : ∃ f fd, FnOk P w K mg base CX0 k f fd ps sp ∧ mg x = some (.ref f) ∧ PySem.W.keepIn K (.ref f) = true ∧ Binds K fd ps []
structure MOk (c m : Str) (k : Nat) (ps : List Str) (sp : Sp) : Prop where
  ex : ∃ f fd, FnOk P w K mg base CX0 k f fd ps sp ∧ Cls K (He.ga K c) ∧ Meth K (He.ga K c) m f ∧ Binds K fd ps []
end
section
variable {P : Program} {w : World} {K : PySem.W.Frag} {mg : Str → Option Value} {base : Heap}
theorem gok_of {x : Str} {st : Stmt} {f : Addr} {k : Nat} {N ps : List Str} {sp : Sp} (F : ∃ fd, FunD K x x (defArgs st) (defBody st) (defScope st) [] [] f fd) (g : mg x = some (.ref f)) (S : FnScope N ps (defScope st))
    (b : ∀ (kV doc pm : Value) (an : Option Addr) (cdv ct : Value) (us : List Value), us.length = ps.length → bindArgs (PySem.W.fnOf x x (defArgs st) (defBody st) (defScope st) .none kV doc pm an cdv ct) ⟨us, []⟩ = pure (ps.zip us))
    (len : ∀ vs H Q E, sp vs H Q E → vs.length = ps.length)
    (hbody : ∀ (cdv : Value) (A : Around) (outer : List Env) (s : Shared) (H : Hp) (vs : List V) (Q : VK) (E : XK), Room k (A.deeper (envOfC x (defScope st) s.heap.objs.size f cdv)) → sp vs H Q E →
      ∃ t, PSs (cxOf CX0 P w K mg base N x (defScope st) f cdv A outer s H E).nox (defBody st) t ∧ t { nx := fun _ H' => Q .non H', rt := Q } (start N vs) H) : GOk P w K mg base x (k + 1) ps sp := by
  obtain ⟨fd, F⟩ := F
  refine ⟨f, fd, F.ok S len (fun cdv A outer s H vs Q E hr h => ?_), g, F.kp, F.bindsN b⟩
  obtain ⟨t, h1, h2⟩ := hbody cdv A outer s H vs Q E hr h
  exact ⟨t, h1.nox, h2⟩
theorem mok_of {c m q : Str} {st : Stmt} {k : Nat} {N ps : List Str} {sp : Sp} (F : ∃ fd, FunD K m q (defArgs st) (defBody st) (defScope st) [] [] (He.ma K (He.ga K c) m) fd) (cl : Cls K (He.ga K c)) (me : Meth K (He.ga K c) m (He.ma K (He.ga K c) m)) (S : FnScope N ps (defScope st))
    (b : ∀ (kV doc pm : Value) (an : Option Addr) (cdv ct : Value) (us : List Value), us.length = ps.length → bindArgs (PySem.W.fnOf m q (defArgs st) (defBody st) (defScope st) .none kV doc pm an cdv ct) ⟨us, []⟩ = pure (ps.zip us))
    (len : ∀ vs H Q E, sp vs H Q E → vs.length = ps.length)
    (hbody : ∀ (cdv : Value) (A : Around) (outer : List Env) (s : Shared) (H : Hp) (vs : List V) (Q : VK) (E : XK), Room k (A.deeper (envOfC q (defScope st) s.heap.objs.size (He.ma K (He.ga K c) m) cdv)) → sp vs H Q E →
      ∃ t, PSs (cxOf CX0 P w K mg base N q (defScope st) (He.ma K (He.ga K c) m) cdv A outer s H E).nox (defBody st) t ∧ t { nx := fun _ H' => Q .non H', rt := Q } (start N vs) H) : MOk P w K mg base c m (k + 1) ps sp := by
  obtain ⟨fd, F⟩ := F
  refine ⟨_, fd, F.ok S len (fun cdv A outer s H vs Q E hr h => ?_), cl, me, F.bindsN b⟩
  obtain ⟨t, h1, h2⟩ := hbody cdv A outer s H vs Q E hr h
  exact ⟨t, h1.nox, h2⟩
end
section
variable {X : Cx} {k : Nat} {ps : List Str} {sp : Sp} {x c m : Str} {p pos apos : Pos} {e o : Expr} {es : List Expr} {t : TA} {ta : TE}
theorem pe_g (G : GOk X.prog X.w X.K X.mg X.base x k ps sp) (hr : Room k X.A) (ha : PA X (e :: es) t) (hg : Gl X x := by rfl) (hdb : (x == ("__debug__" : Str)) = false := by decide)
    (he : starEach (e :: es) X.env = (false, eval e X.env) :: starEach es X.env := by rfl) (hpl : (backTo pos (starEach es X.env)).any (·.1) = false := by rfl) :
    PE X (.Call (.Name x p) (e :: es) [] pos) (tCall sp [] E0 t) := by
  obtain ⟨f, fd, F, g, kp, b⟩ := G.ex
  exact pe_call F hr hg g kp b .nil pass0 ha hdb he hpl
theorem pe_m {pl : Sem Bool} (G : MOk X.prog X.w X.K X.mg X.base c m k ps sp) (hr : Room k X.A) (ho : PE X o ta) (ha : PA X (e :: es) t)
    (hst : starEach (e :: es) X.env = (false, eval e X.env) :: starEach es X.env := by rfl) (hpl : (backTo pos (starEach es X.env)).any (·.1) = false := by rfl)
    (ht : eval (.Call (.Attribute o m apos) (e :: es) [] pos) X.env = (do
      let ov ← eval o X.env
      standAt apos.atName
      let (f, first) ← holding [ov] (getMethod ov m pl)
      callWith pos f first (backTo pos (starEach (e :: es) X.env)) (backToKw pos (keywordEach [] X.env))) := by rfl) :
    PE X (.Call (.Attribute o m apos) (e :: es) [] pos) (tMeth (He.ga X.K c) m sp [] E0 ta t) := by
  obtain ⟨f, fd, F, cl, me, b⟩ := G.ex
  exact pe_meth ho cl me F hr b .nil pass0 ha hst hpl ht
theorem pe_mz {pl : Sem Bool} (G : MOk X.prog X.w X.K X.mg X.base c m k ps sp) (hr : Room k X.A) (ho : PE X o ta)
    (ht : eval (.Call (.Attribute o m apos) [] [] pos) X.env = (do
      let ov ← eval o X.env
      standAt apos.atName
      let (f, first) ← holding [ov] (getMethod ov m pl)
      callWith pos f first (backTo pos (starEach [] X.env)) (backToKw pos (keywordEach [] X.env))) := by rfl) :
    PE X (.Call (.Attribute o m apos) [] [] pos) (tMeth (He.ga X.K c) m sp [] E0 ta tNil) := by
  obtain ⟨f, fd, F, cl, me, b⟩ := G.ex
  exact pe_meth0 ho cl me F hr b .nil pass0 ht
theorem pe_gi {n : Int} (h : ∃ t, X.mg x = some (.int n t)) (hg : Gl X x := by rfl) (hd : (x == ("__debug__" : Str)) = false := by decide) : PE X (.Name x pos) (tC (.int n)) := by
  obtain ⟨t, e⟩ := h
  exact pe_glob hg e ⟨t, rfl⟩ hd
theorem pe_gs {z : Str} (h : ∃ t, X.mg x = some (.str z t)) (hg : Gl X x := by rfl) (hd : (x == ("__debug__" : Str)) = false := by decide) : PE X (.Name x pos) (tC (.str z)) := by
  obtain ⟨t, e⟩ := h
  exact pe_glob hg e ⟨t, rfl⟩ hd
def rNeNil (K : PySem.W.Frag) : R2 := fun x y H Q => ∃ a b xs, x = .ref a ∧ y = .ref b ∧ SqL K H a xs ∧ SqL K H b [] ∧ Q (.bl (!xs.isEmpty)) H
theorem op_neNil (hu : X.A.units < cLine) : OpR X (compareOp .NotEq) (rNeNil X.K) := by
  intro pins s σ H x y v u Q I rx ry h
  obtain ⟨a, b, xs, rfl, rfl, ha, hb, q⟩ := h
  cases rx
  cases ry
  obtain ⟨its, r, hl, hz⟩ := I.list ha
  obtain ⟨its2, r2, hl2, hz2⟩ := I.list hb
  cases r2
  have go : ∀ k : Bool, k = (!xs.isEmpty) → SeqAt.RcNeAt X.A s (.ref a) (.ref b) k → wpAny (model X.prog X.w) X.A (compareOp .NotEq (.ref a) (.ref b)) (EP X pins σ Q) X.xe s := by
    intro k e n
    refine n _ _ _ _ ⟨.bl k, H, I, rfl, ?_⟩
    rw [e]
    exact q
  cases r with
  | nil =>
    refine go false rfl ?_
    have z := SeqAt.RcNeAt.lists (A := X.A) (e := fun _ => true) hl.isList hl2.isList rfl hu (fun j h1 _ => absurd h1 (by simp))
    simpa using z
  | cons r rr =>
    refine go true rfl ?_
    exact SeqAt.RcNeAt.lists_lengths hl.isList hl2.isList (by simp) hu
end
theorem same_new {H : Hp} {p : Addr} {o : HO} (h : H p = none) : Same H (upd H p o) := fun a u e => by
  rw [upd_ne (ne_of_none e h)]
  exact e
theorem same_mut {H H' : Hp} {p : Addr} {o : HO} (e : Same H H') (h : H p = none) : Same H (upd H' p o) := fun a u ha => by
  rw [upd_ne (ne_of_none ha h)]
  exact e a u ha
def TSame (H H' : Hp) : Prop := ∀ a xs, H a = some (.tup xs) → H' a = some (.tup xs)
theorem TSame.refl (H : Hp) : TSame H H := fun _ _ h => h
theorem TSame.trans {H H1 H2 : Hp} (a : TSame H H1) (b : TSame H1 H2) : TSame H H2 := fun c o h => b c o (a c o h)
theorem TSame.of {H H' : Hp} (e : Same H H') : TSame H H' := fun a xs h => e a _ h
theorem TSame.mut {H H' : Hp} {p : Addr} {o u : HO} (e : TSame H H') (h : H' p = some u) (hu : ∀ xs, u ≠ .tup xs) : TSame H (upd H' p o) := fun a xs ha => by
  rw [upd_ne (ne_of (e a xs ha) h (fun z => hu xs z.symm))]
  exact e a xs ha
theorem TSame.new {H H' : Hp} {p : Addr} {o : HO} (e : TSame H H') (h : H' p = none) : TSame H (upd H' p o) := e.trans (.of (same_new h))
end K42
set_option Elab.async false
set_option linter.all false
set_option maxRecDepth 100000
set_option maxHeartbeats 4000000
namespace K42
open PySem PySem.Spec PyProof.Rows L2
section
variable {X : Cx} {pos : Pos}
def gAttr (K : PySem.W.Frag) (ta : TE) (f : Str) : TG := fun v σ H Q => ta σ H fun x H1 => ∃ a C dx fs, x = .ref a ∧ H1 a = some (.ins C dx fs) ∧ Cls K C ∧ NoAttr K C f ∧ fs.length < 1000 ∧ Q σ (upd H1 a (.ins C dx (putF f v fs)))
theorem pg_attr {o : Expr} {f : Str} {ta : TE} (ho : PE X o ta) : PG X (.Attribute o f pos) (gAttr X.K ta f) := by
  refine ⟨fun pins s σ H v u Q I ru hq => ?_⟩
  rw [assign_Attribute]
  refine wpAny_bind (wpAny_holding (thn (ho.run pins s σ H _ I hq) fun ov s1 h1 => ?_))
  obtain ⟨x, H1, I1, rx, a, C, dx, fs, ex, ea, c, n, l, q⟩ := h1
  subst ex
  obtain rfl : ov = Value.ref a := rx
  refine wpAny_bind (wpAny_standAt (wpAny_bind (wpAny_holding ?_)))
  exact setattr_ok I1 ea c n l ru fun s2 I2 => wpAny_release ⟨σ, _, I2, q⟩
def rMulS : R2 := fun x y H Q => ∃ z i, x = .str z ∧ y = .int i ∧ 0 ≤ i ∧ i < 1000000 ∧ z.length < 1000000 ∧ z.length * i.toNat ≤ 1000000 ∧ Q (.str (Txt.mul z i)) H
theorem op_mul_str : OpR X (binaryOp .Mult) rMulS := by
  intro pins s σ H x y v u Q I rx ry h
  obtain ⟨z, i, rfl, rfl, h0, h1, h2, h3, q⟩ := h
  obtain ⟨t, rfl⟩ := rx
  obtain ⟨t', rfl⟩ := ry
  have big : ¬ ((z.length : Int) > (2 ^ 63 - 1) / i) ∨ i < 1 := by
    by_cases hi : i < 1
    · exact .inr hi
    · refine .inl (Int.not_lt.mpr ?_)
      refine (Int.le_ediv_iff_mul_le (by omega)).mpr ?_
      have e : ((z.length * i.toNat : Nat) : Int) = (z.length : Int) * i := by
        rw [Int.natCast_mul, Int.toNat_of_nonneg h0]
      have e2 : ((z.length * i.toNat : Nat) : Int) ≤ ((1000000 : Nat) : Int) := Int.ofNat_le.mpr h3
      rw [e] at e2
      exact Int.le_trans e2 (by decide)
  refine SB.mul ⟨?_, fun hn _ => ?_, fun _ _ => ?_⟩ fun t2 k => ⟨.str _, H, I.tok _, ⟨_, rfl⟩, q⟩
  · have a : decide (i < -(2 ^ 63 : Int)) = false := decide_eq_false (by omega)
    have b : decide (i ≥ 2 ^ 63) = false := decide_eq_false (by omega)
    rw [a, b]
    rfl
  · rcases big with b | b
    · exact b
    · exact absurd b hn
  · show decide (z.length * i.toNat > sizeLine) = false
    refine decide_eq_false ?_
    rw [sizeLine_eq]
    omega
theorem vals_of_get : ∀ {xs : List V} {us : List Value}, us.length = xs.length → (∀ (j : Nat) v, us[j]? = some v → ∃ x, xs[j]? = some x ∧ RelV x v) → Vals xs us
  | [], [], _, _ => .nil
  | [], _ :: _, h, _ => by cases h
  | _ :: _, [], h, _ => by cases h
  | x :: xs, u :: us, h, g => by
    obtain ⟨y, e, r⟩ := g 0 u rfl
    have e2 : x = y := Option.some.inj e
    subst e2
    exact .cons r (vals_of_get (Nat.succ.inj h) fun j v hj => g (j + 1) v hj)
theorem call_list_str (hc : X.calm = true) : CallR X (.type "list") (fun xs H Q => ∃ z, xs = [.str z] ∧ z.cps.size ≤ 1000000 ∧ ∀ p, H p = none → Q (.ref p) (upd H p (.lst (z.cps.toList.map fun c => V.str ⟨#[c]⟩)))) := by
  intro pins s σ H xs us Q I r h
  obtain ⟨z, rfl, hz, q⟩ := h
  obtain ⟨u, rfl, t, rfl⟩ := vals1 r
  have hz2 : z.cps.size ≤ sizeLine := by rw [sizeLine_eq]; omega
  refine PySem.call_list_str (I.ok.hd hc) z t (hn := hz2) fun h' tk acc c' hk hD hacc => ?_
  refine ⟨.ref s.heap.objs.size, upd H s.heap.objs.size (.lst (z.cps.toList.map fun c => V.str ⟨#[c]⟩)), I.laid (t' := tk) hk (Nat.le_refl _) ?_, rfl, q _ (I.hok.fresh (Nat.le_refl _))⟩
  show ObjOk X.prog X.w _ _ _ (.lst (z.cps.toList.map fun c => V.str ⟨#[c]⟩))
  refine ⟨by rw [List.length_map, Array.length_toList]; exact hz2, acc.toList, c', vals_of_get (by rw [List.length_map, Array.length_toList, Array.length_toList]; exact hacc.1) fun j v e => ?_, by rw [Array.toArray_toList]; exact hD⟩
  obtain ⟨c, u, e1, e2⟩ := hacc.2 j v (by rw [← Array.getElem?_toList]; exact e)
  subst e2
  refine ⟨.str ⟨#[c]⟩, ?_, u, rfl⟩
  rw [List.getElem?_map, Array.getElem?_toList, e1]
  rfl
def tD1T (tk tv : TE) : TE := fun σ H Q => ∀ p, H p = none → tk σ (upd H p (.dT [])) fun x H1 => tv σ H1 fun y H2 => ∃ b ks, x = .ref b ∧ H2 b = some (.tup (ks.map kV)) ∧ H2 p = some (.dT []) ∧ Q (.ref p) (upd H2 p (.dT [(ks, y)]))
theorem pe_d1T {k v : Expr} {tk tv : TE} (hu : X.A.units + 1 < cLine) (hk : PE X k tk) (hv : PE X v tv) : PE X (.Dict [some k] [v] pos) (tD1T tk tv) := by
  refine ⟨fun pins s σ H Q I q => ?_⟩
  have fresh := I.hok.fresh (Nat.le_refl s.heap.objs.size)
  have I1 := I.laid (a := s.heap.objs.size) (o := .dT []) (h' := s.heap.push { cls := .type "dict", data := .dict #[] }) (t' := s.toks) (fun _ _ e => Heap.get?_push_of_some _ e) (Nat.le_refl _) (dt_empty s.heap I.big)
  rw [arm_eval_Dict, show (evalEachOpt [some k] X.env).zip ((evalEach [v] X.env).map fun v => do let x ← v; standAt pos; pure x) = (pairTrees [some k] [v] X.env pos).map (fun p => (some p.1, p.2)) from rfl,
    dictDisplay_pairs (pairTrees [some k] [v] X.env pos) (by intro z; cases z) (by show 1 < 17; decide)]
  refine wpAny_bind (wpAny_standAt (wpAny_bind (wpAny_subDictH (knd := tupleKind (mixKind X.prog X.w)) (Nat.lt_of_succ_lt hu) (by show 1 ≤ 15; decide) ?_)))
  refine thn ((pps_cons hk hv pps_nil).run pins _ σ _ (fun ps H2 => match ps with
    | [(x, y)] => ∃ b ks, x = .ref b ∧ H2 b = some (.tup (ks.map kV)) ∧ H2 s.heap.objs.size = some (.dT []) ∧ Q (.ref s.heap.objs.size) (upd H2 s.heap.objs.size (.dT [(ks, y)]))
    | _ => False) I1 (q _ fresh)) fun ws s2 h2 => ?_
  obtain ⟨ps, H2, I2, rel, z⟩ := h2
  cases rel with
  | nil => exact z.elim
  | @cons a1 a2 l1 l2 r0 rr =>
    obtain ⟨x, y⟩ := a1
    obtain ⟨u, w⟩ := a2
    cases rr with
    | cons _ _ => exact z.elim
    | nil =>
      obtain ⟨b, ks, ex, hb, hp, q2⟩ := z
      subst ex
      obtain ⟨rx, ry⟩ := r0
      cases (show u = Value.ref b from rx)
      obtain ⟨hz, hd, xs, relx, dd⟩ := dt_of I2.hok hp
      cases relx
      refine ⟨[(ks, b, w)], ⟨rfl, rfl, key_of I2.hok hb, trivial⟩, dd, fun h' tk dd' hs => wpAny_pure ⟨.ref s.heap.objs.size, _, ?_, rfl, q2⟩⟩
      obtain ⟨o, es, ep, ho, h3, h4, h5, _, h7⟩ := dd'
      refine d_write I2 (by rw [hp]; exact True.intro) hs ⟨o, ho⟩ ⟨by rw [sizeLine_eq]; show 1 ≤ _; decide, hd, [(ks, b, w)], .cons ⟨rfl, ?_, ry⟩ .nil, o, es, ep, ho, h3, h4, h5, h7⟩
      rw [upd_ne (ne_of hb hp (fun e => nomatch e))]
      exact hb
theorem dictSetT {pins : List (Addr × Obj)} {σ : L2.St} {H : Hp} {s : Shared} {E : Value → Shared → Prop} {D b : Addr} {kvs : List (List Key × V)} {ks : List Key} {v : V} {r : Value} {Q : Unit → Shared → Prop} (hu : X.A.units + 1 < cLine) (I : Inv X pins σ H s) (hD : H D = some (.dT kvs))
    (hb : H b = some (.tup (ks.map kV))) (hz : kvs.length < sizeLine) (rv : RelV v r) (h : ∀ s', Inv X pins σ (upd H D (.dT (putK kvs ks v))) s' → Q () s') : wpAny (model X.prog X.w) X.A (dictSet D (.ref b) r) Q E s := by
  obtain ⟨z, hd, xs, rel, dd⟩ := dt_of I.hok hD
  have more : (putK kvs ks v).length ≤ sizeLine := by
    have := length_putK kvs ks v
    omega
  refine wpAny_dictSet_heap (hsz := by rw [← Paired.length rel]; exact z) (Nat.lt_of_succ_lt hu) (key_of I.hok hb) dd fun h' dd' hs => h _ ?_
  obtain ⟨o, es, ep, ho, h3, h4, h5, _, h7⟩ := dd'
  refine d_write I (by rw [hD]; exact True.intro) hs ⟨o, ho⟩ ⟨more, hd, _, (rel.put ks hb rv).keeps fun c ys ec => ?_, o, es, ep, ho, h3, h4, h5, h7⟩
  rw [upd_ne (ne_of ec hD (fun e => nomatch e))]
  exact ec
def tDcT (wi : TI) (g : TG) (tk tv : TE) (vs : List Nat) : TE := fun σ H Q => wi σ H fun J H1 => ∀ D, H1 D = none → ∃ W : Nat → Nat → Hp → Prop, (∃ m, W 0 m (upd H1 D (.dT []))) ∧ ∀ i m H, W i m H →
  (J.stop i H ∧ Q (.ref D) H) ∨ (J.go i H ∧ ∃ N : Hp → Prop, (∀ H', N H' → ∃ m', m' < m ∧ W (i + 1) m' H') ∧ ∀ x H', J.yld i H x H' → g x (wipe σ vs) H' fun σ2 H2 => wipe σ2 vs = wipe σ vs ∧
    tk σ2 H2 fun y H4 => tv σ2 H4 fun z H5 => ∃ kvs b ks, y = .ref b ∧ H5 b = some (.tup (ks.map kV)) ∧ H5 D = some (.dT kvs) ∧ kvs.length < sizeLine ∧ N (upd H5 D (.dT (putK kvs ks z))))
abbrev InBlk (X : Cx) (scope : Scope) (J : Cx → Prop) : Prop := ∀ (s : Shared) (H : Hp) (C : Addr) (cl : List (Str × Addr)) (fp : List Addr), J (X.blk s H scope (compEnvC scope cl C X.env) fp)
theorem ps_setDcT {i : Nat} {y : Str} {py : Pos} {kx vx tg iter : Expr} {scope : Scope} {own : List (Str × Nat)} {spos : Pos} {wi : TI} {g : TG} {tk tv : TE} (hu : X.A.units + 1 < cLine) (hc : X.calm = true) (hN : X.N.Nodup) (hy : X.N[i]? = some y) (hyl : X.env.scope.names.lookup y = some .local)
    (hsw : swapsWith (.DictComp kx vx [⟨tg, iter, [], 0⟩] scope pos) (some (.Name y py)) spos.line X.env = pure true) (hi : PI X tg iter wi) (ok : BlkOk X.N X.env.scope scope own)
    (hg : InBlk X scope fun Y => PG Y tg g) (hk : InBlk X scope fun Y => PE Y kx tk) (he : InBlk X scope fun Y => PE Y vx tv) (hs : ∀ x, foldedSetIterable iter X.env x = pure x := by intro _; rfl) :
    PS X (.Assign [.Name y py] (.DictComp kx vx [⟨tg, iter, [], 0⟩] scope pos) spos) (tAsg (tDcT wi g tk tv (own.map (·.2))) (gName i)) := by
  refine ⟨fun pins s σ H Dn I h => ?_⟩
  rw [exec_Assign_Name_used _ _ _ _ hsw]
  refine wpAny_bind (wpAny_standAt (wpAny_bind ?_))
  have h0 : tDcT wi g tk tv (own.map (·.2)) σ H (fun x H1 => gName i x σ H1 Dn.nx) := h
  show wpAny _ X.A (do let _ ← comprehension (.DictComp kx vx [⟨tg, iter, [], 0⟩] scope pos) scope X.env (firstIterPos [⟨tg, iter, [], 0⟩] pos) newDict false (eval iter X.env) (some (assign (.Name y py) X.env))) _ _ s
  refine wpAny_bind (thn (Q := fun _ s' => SP X pins Dn .next s') ?_ fun _ s' hq => wpAny_pure (wpAny_pure hq))
  have cells : ∀ z ∈ scope.names, z.2 = .free → ∃ c, X.env.cells.lookup z.1 = some c := fun z hz e => I.ok.has _ (ok.free z hz e)
  refine wpAny_comprehension_free (use := some (assign (.Name y py) X.env)) rfl hs (closure_ok cells) ok.kind (fun z hz e => by rw [ok.uniq z hz, e]) (thn (hi.run pins s σ H _ I h0) fun xv s1 hx => thn hx fun itv s2 h2 => ?_)
  obtain ⟨it, fp, tn, J, H2, ei, I2, Tn, st2, f2, q⟩ := h2
  subst ei
  refine wpAny_newObj_type (newEnv_comp ?_)
  obtain ⟨D, hD⟩ : ∃ D, D = s2.heap.objs.size := ⟨_, rfl⟩
  rw [← hD]
  have free : H2 D = none := I2.hok.fresh (Nat.le_of_eq hD.symm)
  obtain ⟨W, ⟨m0, w0⟩, turn⟩ := q D free
  obtain ⟨s3, es3⟩ : ∃ s3 : Shared, s3 = { s2 with heap := s2.heap.push { cls := .type "dict", data := .dict #[] } } := ⟨_, rfl⟩
  rw [← es3]
  have hp3 : s3.heap = s2.heap.push { cls := .type "dict", data := .dict #[] } := by rw [es3]
  have I3 : Inv X pins σ (upd H2 D (.dT [])) s3 := by
    rw [es3]
    refine I2.laid (t' := s2.toks) (fun b o e => Heap.get?_push_of_some _ e) (Nat.le_of_eq hD.symm) ?_
    rw [hD]
    exact dt_empty s2.heap I2.big
  have below : ∀ b ∈ fp, b < s2.heap.objs.size := fun b hb => by
    obtain ⟨o, e, _⟩ := Tn.obj _ _ st2 b hb
    exact Heap.lt_size e
  have f3 : ∀ b ∈ fp, FpOk X pins (upd H2 D (.dT [])) b ∧ b < s3.heap.objs.size := fun b hb => by
    refine ⟨⟨?_, (f2 b hb).2⟩, by rw [hp3, Heap.size_push]; exact Nat.lt_succ_of_lt (below b hb)⟩
    rw [upd_ne (by rw [hD]; exact Nat.ne_of_lt (below b hb))]
    exact (f2 b hb).1
  have st3 : tn 0 s3.heap := Tn.keep _ _ _ st2 fun b _ o e => by rw [hp3]; exact Heap.get?_push_of_some _ e
  have I4 := block_start I3 ok hN f3
  have gB := hg s3 (upd H2 D (.dT [])) s3.heap.objs.size (cellsFrom (s3.heap.objs.size + 1) scope.names (cloFrom X.env.cells scope.names [])) fp
  have kB := hk s3 (upd H2 D (.dT [])) s3.heap.objs.size (cellsFrom (s3.heap.objs.size + 1) scope.names (cloFrom X.env.cells scope.names [])) fp
  have vB := he s3 (upd H2 D (.dT [])) s3.heap.objs.size (cellsFrom (s3.heap.objs.size + 1) scope.names (cloFrom X.env.cells scope.names [])) fp
  show codeAny _ _ (.compStart (.DictComp kx vx [⟨tg, iter, [], 0⟩] scope pos) 0 (.ref it) (.ref D) (compEnvC scope (cellsFrom (s3.heap.objs.size + 1) scope.names (cloFrom X.env.cells scope.names [])) s3.heap.objs.size X.env))
    (compPost (model X.prog X.w) X.A X.xe (some (assign (.Name y py) X.env)) (fun _ s' => SP X pins Dn .next s') (.ref D) s3.heap.objs.size) { s3 with heap := pushCells (s3.heap.push { cls := .type "dict", data := .dict #[] }) scope.names }
  obtain ⟨ce, ece⟩ : ∃ ce, ce = compEnvC scope (cellsFrom (s3.heap.objs.size + 1) scope.names (cloFrom X.env.cells scope.names [])) s3.heap.objs.size X.env := ⟨_, rfl⟩
  rw [← ece] at I4 gB kB vB ⊢
  have eL : ce.locals = s3.heap.objs.size := by rw [ece]; rfl
  obtain ⟨H3, eH3⟩ : ∃ H3, H3 = upd H2 D (.dT []) := ⟨_, rfl⟩
  rw [← eH3] at I3 I4 gB kB vB w0 f3
  obtain ⟨s4, es4⟩ : ∃ s4 : Shared, s4 = { s3 with heap := pushCells (s3.heap.push { cls := .type "dict", data := .dict #[] }) scope.names } := ⟨_, rfl⟩
  rw [← es4] at I4 ⊢
  have st4 : tn 0 s4.heap := Tn.keep _ _ _ st3 fun b _ o e => by rw [es4]; exact pushCells_keeps _ _ _ _ (Heap.get?_push_of_some _ e)
  have own4 : ∀ {σ' : L2.St} {H' : Hp} {s' : Shared}, Inv (X.blk s3 H3 scope ce fp) [] σ' H' s' → (∀ b ∈ fp, H' b = none) → ∀ b ∈ fp, FpOk (X.blk s3 H3 scope ce fp) [] H' b := fun {_ _ _} I' hn b hb =>
    ⟨hn b hb, (I'.ok.exf b hb).1, I'.ok.exfs b hb, .inl hb, fun x c e => (I'.ok.exf b hb).2 x c e, fun p hp => by cases hp⟩
  have loop : codeAny (model X.prog X.w) X.A (.compLoop (.DictComp kx vx [⟨tg, iter, [], 0⟩] scope pos) 0 (.ref it) (.ref D) ce) (compPost (model X.prog X.w) X.A X.xe (some (assign (.Name y py) X.env)) (fun _ s' => SP X pins Dn .next s') (.ref D) s3.heap.objs.size) s4 := by
    refine compLoop_anyD (fun n s' => ∃ j H', Inv (X.blk s3 H3 scope ce fp) [] (wipe σ (own.map (·.2))) H' s' ∧ tn j s'.heap ∧ (∀ b ∈ fp, H' b = none) ∧ W j n H') ?_ m0 ⟨0, H3, I4, st4, fun b hb => (f3 b hb).1.1, w0⟩
    intro n s5 hn5
    obtain ⟨j, H5, I5, st5, n5, w5⟩ := hn5
    rcases turn j n H5 w5 with ⟨stop, qq⟩ | ⟨go, N, hNx, step⟩
    · refine thnF (Tn.done (X.blk s3 H3 scope ce fp) rfl rfl rfl hc j [] s5 _ H5 (fun _ _ => False) I5 (own4 I5 n5) st5 stop) fun r s6 h6 => ?_
      obtain ⟨hr, I6⟩ := h6
      subst hr
      have I7 : Inv X pins σ H5 s6 := I3.call' (ch := fp) I6.os I6.base I6.hok I6.bare fun b hb => ⟨(f3 b hb).1.2.2.2.1, (f3 b hb).1.2.1, (f3 b hb).1.2.2.2.2.1, (f3 b hb).1.2.2.2.2.2⟩
      have freeC : H5 s3.heap.objs.size = none := by
        have z : H5 ce.locals = none := I6.free
        rw [eL] at z
        exact z
      obtain ⟨m, hm, _⟩ := I6.loc
      have hm : s6.heap.Ns ce.locals m := hm
      rw [eL] at hm
      show wpAny _ _ (assign (.Name y py) X.env (.ref D)) _ _ _
      refine wpAny_assign_Name (store_ok2 (v := V.ref D) I7 hN hy (.inl hyl) rfl (fun s8 I8 hch => ?_) (.inr hyl))
      obtain ⟨a, sb, ha⟩ := hch
      obtain ⟨g0, g1, g2, g3, g4, g5⟩ := I3.fpOk (Nat.le_refl _) freeC
      have nCa : s3.heap.objs.size ≠ a := by
        rcases ha with z | z
        · rw [z]; exact g1
        · exact fun e => g4 y a z e.symm
      exact ⟨m, hm.sameBut sb nCa, fun h3 sb3 => ⟨_, H5, I8.turned (t' := s8.toks) (fun b o hb e => (sb3.2 b hb).trans e) g0 g1 g3 g4 g5, qq⟩⟩
    · refine thnF (Tn.item (X.blk s3 H3 scope ce fp) rfl rfl rfl hc j [] s5 _ H5 (fun _ _ => False) I5 (own4 I5 n5) st5 go) fun r s6 h6 => ?_
      obtain ⟨u, hr, h6⟩ := h6
      subst hr
      refine thnF h6 fun _ s7 h7 => ?_
      obtain ⟨x, H7, I7, r7, y7, st7, n7⟩ := h7
      have I7' := I7.pinned (own4 I7 n7) (Tn.obj _ _ st7)
      refine thnF (gB.run _ s7 _ H7 x u _ I7' r7 (step x H7 y7)) fun _ s8 h8 => ?_
      obtain ⟨σ8, H8, I8, hw8, q8⟩ := h8
      show wpAny _ _ (pure true) _ _ s8
      refine wpAny_pure ?_
      show wpAny _ _ (eval kx ce) _ _ s8
      refine thnF (kB.run _ s8 σ8 H8 _ I8 q8) fun z s10 h10 => ?_
      obtain ⟨yk, H10, I10, r10, q10⟩ := h10
      refine thnF (vB.run _ s10 σ8 H10 _ I10 q10) fun z2 s11 h11 => ?_
      obtain ⟨yv, H11, I11, r11, kvs, b, ks, ek, hb11, hD11, hz11, nx⟩ := h11
      subst ek
      cases (show z = Value.ref b from r10)
      refine dictSetT (X := X.blk s3 H3 scope ce fp) hu I11 hD11 hb11 hz11 r11 fun s12 I12 => ?_
      obtain ⟨m', hm, w'⟩ := hNx _ nx
      have pinned : ∀ b ∈ fp, ∀ o, s7.heap.get? b = some o → s12.heap.get? b = some o ∧ (upd H11 D (.dT (putK kvs ks yv))) b = none := fun b hb o e => by
        have z := I12.pin (b, o) (List.mem_append_right _ (List.mem_append_right _ (mem_pinsAt hb e)))
        exact ⟨z.1, z.2.1⟩
      have lens : (wipe σ (own.map (·.2))).length = σ8.length := by rw [← hw8, wipe_length]
      refine ⟨m', hm, j + 1, _, (I12.unpinned (pins := [])).weak lens (fun l v e => ?_), Tn.keep _ _ _ st7 fun b hb o e => (pinned b hb o e).1, fun b hb => ?_, w'⟩
      · rw [← hw8] at e
        exact (wipe_some e).1
      · obtain ⟨o, e, _⟩ := Tn.obj _ _ st7 b hb
        exact (pinned b hb o e).2
  exact codeAny_compStart_dict loop (Tn.self X.A 0 _ _ _ st4 loop)
end
section
variable (P : Program) (w : World) (K : PySem.W.Frag) (mg : Str → Option Value) (base : Heap)
abbrev catV : List V → List V → List V := fun vs zs => vs ++ zs
abbrev catU : List Value → List Value → List Value := fun us ws => us ++ ws
structure GKOk (x : Str) (k n : Nat) (ks ps : List Str) (sp : Sp) : Prop where
  ex : ∃ f fd, FnOk P w K mg base CX0 k f fd ps sp ∧ mg x = some (.ref f) ∧ PySem.W.keepIn K (.ref f) = true ∧ KBn K fd ps n ks catU catV
structure COk (c : Str) (k n : Nat) (ks ps : List Str) (sp : Sp) : Prop where
  ex : ∃ f fd, FnOk P w K mg base CX0 k f fd ps sp ∧ mg c = some (.ref (He.ga K c)) ∧ Mk K (He.ga K c) f ∧ KBn K fd ps (n + 1) ks catU catV
end
section
variable {P : Program} {w : World} {K : PySem.W.Frag} {mg : Str → Option Value} {base : Heap}
theorem kbn_of {x q : Str} {params : Arguments} {body : List Stmt} {scope : Scope} {kws : List (Str × V)} {f : Addr} {fd : FuncData} {ps ks : List Str} {n : Nat} (F : FunD K x q params body scope [] kws f fd)
    (h : ∀ (kV doc pm : Value) (an : Option Addr) (cdv ct : Value) (us ws : List Value), us.length = n → ws.length = ks.length → bindArgs (PySem.W.fnOf x q params body scope .none kV doc pm an cdv ct) ⟨us, ks.zip ws⟩ = pure (ps.zip (us ++ ws))) :
    KBn K fd ps n ks catU catV := by
  obtain ⟨oc, od, dV, kV, doc, pm, an, cdv, ct, osl, rfl, _, _, hD, _⟩ := F.ex
  rcases hD with ⟨_, rfl⟩ | ⟨e, _⟩
  · exact ⟨fun s us ws _ l1 l2 => .of_eq (h kV doc pm an cdv ct us ws l1 l2), fun r1 r2 => r1.append r2⟩
  · exact absurd rfl e
theorem gkok_of {x : Str} {st : Stmt} {f : Addr} {k n : Nat} {N ps ks : List Str} {kws : List (Str × V)} {sp : Sp} (F : ∃ fd, FunD K x x (defArgs st) (defBody st) (defScope st) [] kws f fd) (g : mg x = some (.ref f)) (S : FnScope N ps (defScope st))
    (b : ∀ (kV doc pm : Value) (an : Option Addr) (cdv ct : Value) (us ws : List Value), us.length = n → ws.length = ks.length → bindArgs (PySem.W.fnOf x x (defArgs st) (defBody st) (defScope st) .none kV doc pm an cdv ct) ⟨us, ks.zip ws⟩ = pure (ps.zip (us ++ ws)))
    (len : ∀ vs H Q E, sp vs H Q E → vs.length = ps.length)
    (hbody : ∀ (cdv : Value) (A : Around) (outer : List Env) (s : Shared) (H : Hp) (vs : List V) (Q : VK) (E : XK), Room k (A.deeper (envOfC x (defScope st) s.heap.objs.size f cdv)) → sp vs H Q E →
      ∃ t, PSs (cxOf CX0 P w K mg base N x (defScope st) f cdv A outer s H E).nox (defBody st) t ∧ t { nx := fun _ H' => Q .non H', rt := Q } (start N vs) H) : GKOk P w K mg base x (k + 1) n ks ps sp := by
  obtain ⟨fd, F⟩ := F
  refine ⟨f, fd, F.ok S len (fun cdv A outer s H vs Q E hr h => ?_), g, F.kp, kbn_of F b⟩
  obtain ⟨t, h1, h2⟩ := hbody cdv A outer s H vs Q E hr h
  exact ⟨t, h1.nox, h2⟩
theorem cok_of {c q : Str} {st : Stmt} {k n : Nat} {N ps ks : List Str} {kws : List (Str × V)} {sp : Sp} (F : ∃ fd, FunD K "__init__" q (defArgs st) (defBody st) (defScope st) [] kws (He.ma K (He.ga K c) "__init__") fd) (g : mg c = some (.ref (He.ga K c)))
    (M : Mk K (He.ga K c) (He.ma K (He.ga K c) "__init__")) (S : FnScope N ps (defScope st))
    (b : ∀ (kV doc pm : Value) (an : Option Addr) (cdv ct : Value) (us ws : List Value), us.length = n + 1 → ws.length = ks.length → bindArgs (PySem.W.fnOf "__init__" q (defArgs st) (defBody st) (defScope st) .none kV doc pm an cdv ct) ⟨us, ks.zip ws⟩ = pure (ps.zip (us ++ ws)))
    (len : ∀ vs H Q E, sp vs H Q E → vs.length = ps.length)
    (hbody : ∀ (cdv : Value) (A : Around) (outer : List Env) (s : Shared) (H : Hp) (vs : List V) (Q : VK) (E : XK), Room k (A.deeper (envOfC q (defScope st) s.heap.objs.size (He.ma K (He.ga K c) "__init__") cdv)) → sp vs H Q E →
      ∃ t, PSs (cxOf CX0 P w K mg base N q (defScope st) (He.ma K (He.ga K c) "__init__") cdv A outer s H E).nox (defBody st) t ∧ t { nx := fun _ H' => Q .non H', rt := Q } (start N vs) H) : COk P w K mg base c (k + 1) n ks ps sp := by
  obtain ⟨fd, F⟩ := F
  refine ⟨_, fd, F.ok S len (fun cdv A outer s H vs Q E hr h => ?_), g, M, kbn_of F b⟩
  obtain ⟨t, h1, h2⟩ := hbody cdv A outer s H vs Q E hr h
  exact ⟨t, h1.nox, h2⟩
end
section
variable {X : Cx} {k n : Nat} {ps ks : List Str} {sp : Sp} {x : Str} {p pos : Pos} {e : Expr} {es : List Expr} {kws : List Keyword} {t tk : TA}
theorem pe_gk (G : GKOk X.prog X.w X.K X.mg X.base x k n ks ps sp) (hr : Room k X.A) (ha : PA X (e :: es) t) (hkw : PK X kws tk) (hg : Gl X x := by rfl)
    (hall : (backToKw pos (keywordEach kws X.env)).all (·.1.isSome) = true := by rfl) (hks : (backToKw pos (keywordEach kws X.env)).filterMap (·.1) = ks := by rfl)
    (hdb : (x == ("__debug__" : Str)) = false := by decide) (he : starEach (e :: es) X.env = (false, eval e X.env) :: starEach es X.env := by rfl)
    (hpl : ((backTo pos (starEach (e :: es) X.env)).any (·.1) || (backToKw pos (keywordEach kws X.env)).any (·.1.isNone)) = false := by rfl) :
    PE X (.Call (.Name x p) (e :: es) kws pos) (tCallN n ks.length sp catV E0 t tk) := by
  obtain ⟨f, fd, F, g, kp, b⟩ := G.ex
  exact pe_callN F hr hg g kp b pass0 ha hkw hall hks hdb he hpl
theorem pe_mk (G : COk X.prog X.w X.K X.mg X.base x k n ks ps sp) (hr : Room (k + 1) X.A) (ha : PA X (e :: es) t) (hkw : PK X kws tk) (hg : Gl X x := by rfl)
    (hall : (backToKw pos (keywordEach kws X.env)).all (·.1.isSome) = true := by rfl) (hks : (backToKw pos (keywordEach kws X.env)).filterMap (·.1) = ks := by rfl)
    (hdb : (x == ("__debug__" : Str)) = false := by decide) (he : starEach (e :: es) X.env = (false, eval e X.env) :: starEach es X.env := by rfl)
    (hpl : ((backTo pos (starEach (e :: es) X.env)).any (·.1) || (backToKw pos (keywordEach kws X.env)).any (·.1.isNone)) = false := by rfl) :
    PE X (.Call (.Name x p) (e :: es) kws pos) (tMakeN (He.ga X.K x) n ks.length sp catV E0 t tk) := by
  obtain ⟨f, fd, F, g, M, b⟩ := G.ex
  exact pe_makeN M F hr hg g b pass0 ha hkw hall hks hdb he hpl
end
section
variable {X : Cx} {pos : Pos}
def rLenK (K : PySem.W.Frag) : List V → Hp → VK → Prop := fun xs H Q => ∃ p ys, xs = [.ref p] ∧ (SqL K H p ys ∨ SqT K H p ys) ∧ Q (.int ys.length) H
def rTupOf (K : PySem.W.Frag) : List V → Hp → VK → Prop := fun xs H Q => ∃ p ys, xs = [.ref p] ∧ ((SqL K H p ys ∧ ∀ l, H l = none → Q (.ref l) (upd H l (.tup ys))) ∨ (SqT K H p ys ∧ Q (.ref p) H))
def rLstOf (K : PySem.W.Frag) : List V → Hp → VK → Prop := fun xs H Q => ∃ p ys, xs = [.ref p] ∧ (SqL K H p ys ∨ SqT K H p ys) ∧ ∀ l, H l = none → Q (.ref l) (upd H l (.lst ys))
theorem ix_listK (K : PySem.W.Frag) (e : X.K = K := by rfl) : IxR X (rIxL K) := by subst e; exact ix_list
theorem ix_tupK (K : PySem.W.Frag) (e : X.K = K := by rfl) : IxR X (rIxT K) := by subst e; exact ix_tup
theorem len_seqK (K : PySem.W.Frag) (e : X.K = K := by rfl) : CallR X (.builtin "len") (rLenK K) := by subst e; exact call_len_seq
theorem tuple_ofK (K : PySem.W.Frag) (e : X.K = K := by rfl) : CallR X (.type "tuple") (rTupOf K) := by subst e; exact call_tuple_of
theorem list_ofK (K : PySem.W.Frag) (e : X.K = K := by rfl) : CallR X (.type "list") (rLstOf K) := by subst e; exact call_list_of
theorem in_seqK (K : PySem.W.Frag) (e : X.K = K := by rfl) : OpR X (compareOp .In) (rIn K false) := by subst e; exact op_in_seq
theorem notIn_seqK (K : PySem.W.Frag) (e : X.K = K := by rfl) : OpR X (compareOp .NotIn) (rIn K true) := by subst e; exact op_notIn_seq
theorem pg_tupK (K : PySem.W.Frag) {es : List Expr} {k n : Nat} {t : TGs} (hc : X.calm = true) (h : PGs X es t) (e : X.K = K := by rfl)
    (hn : (assignEach es X.env).length = n := by rfl) (hst : (assignEach es X.env).findIdx? (·.1) = none := by rfl) : PG X (.Tuple es k pos) (gTup K n t) := by
  subst e
  exact pg_tup hc h hn hst
end
end K42
set_option Elab.async false
set_option linter.all false
set_option maxRecDepth 100000
set_option maxHeartbeats 4000000
namespace K42
open PySem PySem.Spec PyProof.Rows L2
abbrev Nd := List Key
abbrev Tag := Str × Int × Int
abbrev Edge := Tag × Nd
abbrev Gph := List (Nd × List Edge)
def tagL (t : Tag) : List V := [.str t.1, .int t.2.1, .int t.2.2]
def KeyV (H : Hp) (v : V) (k : Nd) : Prop := ∃ a, v = .ref a ∧ H a = some (.tup (k.map kV))
def TagV (H : Hp) (v : V) (t : Tag) : Prop := ∃ a, v = .ref a ∧ H a = some (.tup (tagL t))
def EdgeV (H : Hp) (v : V) (e : Edge) : Prop := ∃ p a b, v = .ref p ∧ H p = some (.tup [.ref a, .ref b]) ∧ H a = some (.tup (tagL e.1)) ∧ H b = some (.tup (e.2.map kV))
def LstOf {α : Type} (R : V → α → Prop) (H : Hp) (v : V) (xs : List α) : Prop := ∃ l vs, v = .ref l ∧ H l = some (.lst vs) ∧ Paired R vs xs
def TupOf {α : Type} (R : V → α → Prop) (H : Hp) (v : V) (xs : List α) : Prop := ∃ l vs, v = .ref l ∧ H l = some (.tup vs) ∧ Paired R vs xs
def EntV (H : Hp) (kv : Nd × V) (ne : Nd × List Edge) : Prop := kv.1 = ne.1 ∧ LstOf (EdgeV H) H kv.2 ne.2
structure GphAt (H : Hp) (d : Addr) (kvs : List (Nd × V)) (g : Gph) : Prop where
  dict : H d = some (.dT kvs)
  ents : Paired (EntV H) kvs g
section
variable {H H' : Hp} {v : V} {α : Type}
theorem KeyV.mono {k : Nd} (t : TSame H H') (h : KeyV H v k) : KeyV H' v k := let ⟨a, e, q⟩ := h; ⟨a, e, t a _ q⟩
theorem TagV.mono {k : Tag} (t : TSame H H') (h : TagV H v k) : TagV H' v k := let ⟨a, e, q⟩ := h; ⟨a, e, t a _ q⟩
theorem EdgeV.mono {e : Edge} (t : TSame H H') (h : EdgeV H v e) : EdgeV H' v e := let ⟨p, a, b, e0, q, q1, q2⟩ := h; ⟨p, a, b, e0, t _ _ q, t _ _ q1, t _ _ q2⟩
theorem paired_imp {β : Type} {F G : α → β → Prop} : ∀ {l₁ : List α} {l₂ : List β}, Paired F l₁ l₂ → (∀ a b, F a b → G a b) → Paired G l₁ l₂
  | _, _, .nil, _ => .nil
  | _, _, .cons r t, f => .cons (f _ _ r) (paired_imp t f)
theorem paired_len {β : Type} {F : α → β → Prop} : ∀ {l₁ : List α} {l₂ : List β}, Paired F l₁ l₂ → l₁.length = l₂.length
  | _, _, .nil => rfl
  | _, _, .cons _ t => congrArg Nat.succ (paired_len t)
theorem paired_app {β : Type} {F : α → β → Prop} : ∀ {l₁ l₃ : List α} {l₂ l₄ : List β}, Paired F l₁ l₂ → Paired F l₃ l₄ → Paired F (l₁ ++ l₃) (l₂ ++ l₄)
  | _, _, _, _, .nil, s => s
  | _, _, _, _, .cons r t, s => .cons r (paired_app t s)
theorem paired_get {β : Type} {F : α → β → Prop} : ∀ {l₁ : List α} {l₂ : List β} {i : Nat} {a : α}, Paired F l₁ l₂ → l₁[i]? = some a → ∃ b, l₂[i]? = some b ∧ F a b
  | _, _, _, _, .nil, e => by simp at e
  | _, _, 0, _, .cons r _, e => by
    have e2 := Option.some.inj e
    subst e2
    exact ⟨_, rfl, r⟩
  | _, _, i + 1, _, .cons _ t, e => paired_get (i := i) t e
theorem paired_get' {β : Type} {F : α → β → Prop} : ∀ {l₁ : List α} {l₂ : List β} {i : Nat} {b : β}, Paired F l₁ l₂ → l₂[i]? = some b → ∃ a, l₁[i]? = some a ∧ F a b
  | _, _, _, _, .nil, e => by simp at e
  | _, _, 0, _, .cons r _, e => by
    have e2 := Option.some.inj e
    subst e2
    exact ⟨_, rfl, r⟩
  | _, _, i + 1, _, .cons _ t, e => paired_get' (i := i) t e
theorem paired_rev {β : Type} {F : α → β → Prop} : ∀ {l₁ : List α} {l₂ : List β}, Paired F l₁ l₂ → Paired F l₁.reverse l₂.reverse
  | _, _, .nil => .nil
  | _, _, .cons r t => by
    rw [List.reverse_cons, List.reverse_cons]
    exact paired_app (paired_rev t) (.cons r .nil)
theorem paired_snoc {β : Type} {F : α → β → Prop} : ∀ {l₁ : List α} {l₂ : List β} {b : β}, Paired F l₁ (l₂ ++ [b]) → ∃ l a, l₁ = l ++ [a] ∧ Paired F l l₂ ∧ F a b
  | _, [], _, .cons r .nil => ⟨[], _, rfl, .nil, r⟩
  | _, y :: l₂, b, .cons (a := x) r t => by
    obtain ⟨l, a, e, p, f⟩ := paired_snoc (l₂ := l₂) (b := b) t
    exact ⟨x :: l, a, by rw [e]; rfl, .cons r p, f⟩
theorem LstOf.mono {R R' : V → α → Prop} {xs : List α} (s : Same H H') (h : LstOf R H v xs) (i : ∀ v x, R v x → R' v x) : LstOf R' H' v xs :=
  let ⟨l, vs, e, q, p⟩ := h; ⟨l, vs, e, s _ _ q, paired_imp p i⟩
theorem TupOf.mono {R R' : V → α → Prop} {xs : List α} (s : TSame H H') (h : TupOf R H v xs) (i : ∀ v x, R v x → R' v x) : TupOf R' H' v xs :=
  let ⟨l, vs, e, q, p⟩ := h; ⟨l, vs, e, s _ _ q, paired_imp p i⟩
theorem EntV.mono {kv : Nd × V} {ne : Nd × List Edge} (s : Same H H') (h : EntV H kv ne) : EntV H' kv ne := ⟨h.1, h.2.mono s fun _ _ r => r.mono (.of s)⟩
theorem GphAt.mono {d : Addr} {kvs : List (Nd × V)} {g : Gph} (s : Same H H') (h : GphAt H d kvs g) : GphAt H' d kvs g := ⟨s _ _ h.dict, paired_imp h.ents fun _ _ r => r.mono s⟩
end
def gkeys (g : Gph) : List Nd := g.map (·.1)
def look : Gph → Nd → List Edge
  | [], _ => []
  | p :: r, u => if p.1 = u then p.2 else look r u
def outs (g : Gph) (u : Nd) : List Nd := (look g u).map (·.2)
structure GOk' (g : Gph) : Prop where
  nd : (gkeys g).Nodup
  clo : ∀ u ∈ gkeys g, ∀ e ∈ look g u, e.2 ∈ gkeys g
  len : g.length ≤ 60
  deg : ∀ u, (look g u).length ≤ 10
theorem ents_val {H : Hp} : ∀ {kvs : List (Nd × V)} {g : Gph} {u : Nd}, Paired (EntV H) kvs g → u ∈ gkeys g → ∃ l vs, valV kvs u = some (.ref l) ∧ H l = some (.lst vs) ∧ Paired (EdgeV H) vs (look g u)
  | _, _, _, .nil, h => by cases h
  | _, _, u, .cons (a := kv) (b := ne) r t, h => by
    obtain ⟨e, l, vs, e1, e2, e3⟩ := r
    by_cases hu : ne.1 = u
    · refine ⟨l, vs, ?_, e2, ?_⟩
      · rw [valV_pos (e.trans hu), e1]
      · unfold look
        rw [if_pos hu]
        exact e3
    · obtain ⟨l2, vs2, q1, q2, q3⟩ := ents_val t (by
        rcases List.mem_cons.mp h with q | q
        · exact absurd q.symm hu
        · exact q)
      refine ⟨l2, vs2, ?_, q2, ?_⟩
      · rw [valV_neg (fun q => hu (e.symm.trans q))]
        exact q1
      · unfold look
        rw [if_neg hu]
        exact q3
theorem ents_keys {H : Hp} : ∀ {kvs : List (Nd × V)} {g : Gph}, Paired (EntV H) kvs g → kvs.map (·.1) = gkeys g
  | _, _, .nil => rfl
  | _, _, .cons (a := kv) (b := ne) (l₁ := l1) (l₂ := l2) r t => by
    show kv.1 :: l1.map (·.1) = ne.1 :: gkeys l2
    rw [r.1, ents_keys t]
theorem same_unlock {H H' : Hp} {d : Addr} {ob : Obj} {u : HO} (h : H d = some u) (s : Same (upd H d (.frz ob u)) H') : Same H (upd H' d u) := fun a o e => by
  by_cases q : a = d
  · subst q
    rw [upd_same]
    rw [h] at e
    exact e
  · rw [upd_ne q]
    exact s a o (by rw [upd_ne q]; exact e)
theorem tsame_lock {H : Hp} {d : Addr} {o u : HO} (h : H d = some u) (hu : ∀ xs, u ≠ .tup xs) : TSame H (upd H d o) := (TSame.refl H).mut h hu
def SameX (p : Addr) (H H' : Hp) : Prop := ∀ a o, a ≠ p → H a = some o → H' a = some o
theorem SameX.refl (p : Addr) (H : Hp) : SameX p H H := fun _ _ _ h => h
theorem SameX.then {p : Addr} {H H1 H2 : Hp} (a : SameX p H H1) (b : Same H1 H2) : SameX p H H2 := fun c o n h => b c o (a c o n h)
theorem SameX.put {p : Addr} {H H1 : Hp} {o : HO} (a : SameX p H H1) : SameX p H (upd H1 p o) := fun c u n h => by rw [upd_ne n]; exact a c u n h
theorem SameX.mut {p q : Addr} {H H1 : Hp} {o : HO} (a : SameX p H H1) (h : H q = none) : SameX p H (upd H1 q o) := fun c u n e => by
  rw [upd_ne (ne_of_none e h)]
  exact a c u n e
theorem SameX.ts {p : Addr} {H H1 : Hp} {u : HO} (a : SameX p H H1) (h : H p = some u) (hu : ∀ xs, u ≠ .tup xs) : TSame H H1 := fun c xs e => a c _ (ne_of e h (fun z => hu xs z.symm)) e
theorem SameX.free {p q : Addr} {H H1 : Hp} (a : SameX p H H1) (n : q ≠ p) (h : H1 q = none) : H q = none := by
  cases e : H q with
  | none => rfl
  | some o =>
    rw [a q o n e] at h
    cases h
theorem dcT_it {J : It} {n : Nat} {G : Hp → Prop} {Y : Nat → Hp → V → Hp → Prop} (w : Walk J n G Y) {g : TG} {tk tv : TE} {vs : List Nat} {σ : L2.St} {H1 : Hp} {D : Addr} {Qd : Hp → Prop} (Pv : Nat → Hp → Prop) (h0 : Pv 0 (upd H1 D (.dT []))) (hG : ∀ i H, i ≤ n → Pv i H → G H)
    (hs : ∀ i x H H', i < n → Pv i H → Y i H x H' → g x (wipe σ vs) H' fun σ2 H2 => wipe σ2 vs = wipe σ vs ∧
      tk σ2 H2 fun y H4 => tv σ2 H4 fun z H5 => ∃ kvs b ks, y = .ref b ∧ H5 b = some (.tup (ks.map kV)) ∧ H5 D = some (.dT kvs) ∧ kvs.length < sizeLine ∧ Pv (i + 1) (upd H5 D (.dT (putK kvs ks z)))) (hd : ∀ H, Pv n H → Qd H) :
    ∃ W : Nat → Nat → Hp → Prop, (∃ m, W 0 m (upd H1 D (.dT []))) ∧ ∀ i m H, W i m H →
      (J.stop i H ∧ Qd H) ∨ (J.go i H ∧ ∃ N : Hp → Prop, (∀ H', N H' → ∃ m', m' < m ∧ W (i + 1) m' H') ∧ ∀ x H', J.yld i H x H' → g x (wipe σ vs) H' fun σ2 H2 => wipe σ2 vs = wipe σ vs ∧
        tk σ2 H2 fun y H4 => tv σ2 H4 fun z H5 => ∃ kvs b ks, y = .ref b ∧ H5 b = some (.tup (ks.map kV)) ∧ H5 D = some (.dT kvs) ∧ kvs.length < sizeLine ∧ N (upd H5 D (.dT (putK kvs ks z)))) := by
  refine ⟨fun i m H => m = n - i ∧ i ≤ n ∧ Pv i H, ⟨n, by simp, Nat.zero_le _, h0⟩, ?_⟩
  intro i m H hw
  obtain ⟨em, hi, p⟩ := hw
  subst em
  have q := hG i H hi p
  by_cases hlt : i < n
  · exact .inr ⟨w.goes i H hlt q, Pv (i + 1), fun H' p' => ⟨n - (i + 1), by omega, rfl, hlt, p'⟩, fun x H' y => hs i x H H' hlt p (w.yields i H x H' hlt q y)⟩
  · have e : i = n := by omega
    subst e
    exact .inl ⟨w.stops H q, hd H p⟩
theorem valV_mem {κ : Type} [DecidableEq κ] : ∀ {kvs : List (κ × V)} {k : κ}, (valV kvs k).isSome = true ↔ k ∈ kvs.map (·.1)
  | [], k => by simp [valV]
  | p :: r, k => by
    by_cases e : p.1 = k
    · rw [valV_pos e]
      simp [e]
    · rw [valV_neg e, valV_mem (kvs := r)]
      constructor
      · intro h
        exact List.mem_cons_of_mem _ h
      · intro h
        rcases List.mem_cons.mp h with q | q
        · exact absurd q.symm e
        · exact q
theorem valV_at {κ : Type} [DecidableEq κ] : ∀ {kvs : List (κ × V)} {i : Nat} {k : κ} {v : V}, (kvs.map (·.1)).Nodup → kvs[i]? = some (k, v) → valV kvs k = some v
  | [], i, k, v, _, h => by simp at h
  | p :: r, 0, k, v, _, h => by
    have e : p = (k, v) := Option.some.inj h
    rw [e]
    exact valV_pos rfl
  | p :: r, i + 1, k, v, nd, h => by
    have h2 : r[i]? = some (k, v) := h
    have nd2 := List.nodup_cons.mp nd
    have ne : ¬ p.1 = k := fun e => nd2.1 (by show p.1 ∈ _; rw [e]; exact List.mem_map.mpr ⟨(k, v), List.mem_of_getElem? h2, rfl⟩)
    rw [valV_neg ne]
    exact valV_at nd2.2 h2
inductive Wk (g : Gph) : Nd → List Tag → Nd → Prop where
  | nil (u : Nd) : Wk g u [] u
  | cons {u v w : Nd} {t : Tag} {ts : List Tag} : (t, v) ∈ look g u → Wk g v ts w → Wk g u (t :: ts) w
theorem Wk.append {g : Gph} {u v w : Nd} {ts ss : List Tag} (a : Wk g u ts v) (b : Wk g v ss w) : Wk g u (ts ++ ss) w := by
  induction a with
  | nil => exact b
  | cons h _ ih => exact .cons h (ih b)
theorem Wk.one {g : Gph} {u v : Nd} {t : Tag} (h : (t, v) ∈ look g u) : Wk g u [t] v := .cons h (.nil v)
theorem Wk.mem {g : Gph} (clo : ∀ u ∈ gkeys g, ∀ e ∈ look g u, e.2 ∈ gkeys g) {u v : Nd} {ts : List Tag} (a : Wk g u ts v) (h : u ∈ gkeys g) : v ∈ gkeys g := by
  induction a with
  | nil => exact h
  | cons he _ ih => exact ih (clo _ h _ he)
end K42
set_option Elab.async false
set_option linter.all false
set_option maxRecDepth 100000
namespace K42
abbrev Wd := List Nat
def rep (k : Nat) (c : Wd) : Wd := (List.replicate k c).flatten
theorem rep_zero (c : Wd) : rep 0 c = [] := rfl
theorem rep_succ (k : Nat) (c : Wd) : rep (k + 1) c = c ++ rep k c := by
  unfold rep
  rw [List.replicate_succ, List.flatten_cons]
theorem rep_one (c : Wd) : rep 1 c = c := by rw [rep_succ, rep_zero, List.append_nil]
theorem rep_add (c : Wd) (b : Nat) : ∀ a, rep (a + b) c = rep a c ++ rep b c
  | 0 => by rw [Nat.zero_add, rep_zero, List.nil_append]
  | a + 1 => by rw [Nat.add_right_comm, rep_succ, rep_succ, rep_add c b a, List.append_assoc]
theorem rep_succ' (k : Nat) (c : Wd) : rep (k + 1) c = rep k c ++ c := by rw [rep_add, rep_one]
theorem rep_mul (c : Wd) (b : Nat) : ∀ a, rep (a * b) c = rep a (rep b c)
  | 0 => by rw [Nat.zero_mul, rep_zero, rep_zero]
  | a + 1 => by rw [Nat.succ_mul, rep_add, rep_succ', rep_mul c b a]
theorem rep_len (c : Wd) : ∀ k, (rep k c).length = k * c.length
  | 0 => by rw [rep_zero, Nat.zero_mul, List.length_nil]
  | k + 1 => by rw [rep_succ, List.length_append, rep_len c k, Nat.succ_mul, Nat.add_comm]
theorem rep_nil (k : Nat) : rep k [] = [] := List.eq_nil_of_length_eq_zero (by rw [rep_len]; rfl)
theorem rep_mem {x : Nat} {c : Wd} : ∀ {k}, x ∈ rep k c → x ∈ c
  | 0, h => by rw [rep_zero] at h; cases h
  | k + 1, h => by
    rw [rep_succ] at h
    rcases List.mem_append.mp h with h | h
    · exact h
    · exact rep_mem h
theorem rep_pre {c : Wd} {a b : Nat} (h : a ≤ b) : rep a c <+: rep b c := by
  obtain ⟨d, rfl⟩ := Nat.le.dest h
  rw [rep_add]
  exact List.prefix_append _ _
theorem rep_rot (x : Nat) (c : Wd) : ∀ m, rep m (x :: c) ++ [x] = x :: rep m (c ++ [x])
  | 0 => rfl
  | m + 1 => by
    rw [rep_succ, rep_succ, List.append_assoc, rep_rot x c m]
    simp
theorem pre_app {a b c : Wd} (h : b <+: c) : a ++ b <+: a ++ c := (List.prefix_append_right_inj a).mpr h
def Sub (p c p' c' : Wd) : Prop := ∀ m, ∃ m', p ++ rep m c <+: p' ++ rep m' c'
theorem Sub.refl (p c : Wd) : Sub p c p c := fun m => ⟨m, List.prefix_refl _⟩
theorem Sub.trans {p c p1 c1 p2 c2 : Wd} (h : Sub p c p1 c1) (h2 : Sub p1 c1 p2 c2) : Sub p c p2 c2 := fun m =>
  let ⟨m1, e1⟩ := h m
  let ⟨m2, e2⟩ := h2 m1
  ⟨m2, e1.trans e2⟩
def Eqv (r s : Wd × Wd) : Prop := Sub r.1 r.2 s.1 s.2 ∧ Sub s.1 s.2 r.1 r.2
theorem Eqv.refl (r : Wd × Wd) : Eqv r r := ⟨.refl _ _, .refl _ _⟩
theorem Eqv.symm {r s : Wd × Wd} (h : Eqv r s) : Eqv s r := ⟨h.2, h.1⟩
theorem Eqv.trans {r s t : Wd × Wd} (h : Eqv r s) (h2 : Eqv s t) : Eqv r t := ⟨h.1.trans h2.1, h2.2.trans h.2⟩
theorem eqv_rot (p c : Wd) (x : Nat) : Eqv (p ++ [x], c ++ [x]) (p, x :: c) := by
  refine ⟨fun m => ⟨m + 1, ?_⟩, fun m => ⟨m, ?_⟩⟩
  · show (p ++ [x]) ++ rep m (c ++ [x]) <+: p ++ rep (m + 1) (x :: c)
    rw [List.append_assoc]
    refine pre_app ?_
    show [x] ++ rep m (c ++ [x]) <+: _
    rw [List.singleton_append, ← rep_rot, rep_succ']
    exact pre_app (by simp)
  · show p ++ rep m (x :: c) <+: (p ++ [x]) ++ rep m (c ++ [x])
    rw [List.append_assoc, List.singleton_append, ← rep_rot]
    exact pre_app (List.prefix_append _ _)
theorem eqv_pow (p d : Wd) {k : Nat} (hk : 1 ≤ k) : Eqv (p, rep k d) (p, d) := by
  refine ⟨fun m => ⟨m * k, ?_⟩, fun m => ⟨m, ?_⟩⟩
  · show p ++ rep m (rep k d) <+: p ++ rep (m * k) d
    rw [rep_mul]
    exact List.prefix_refl _
  · show p ++ rep m d <+: p ++ rep m (rep k d)
    rw [← rep_mul]
    exact pre_app (rep_pre (Nat.le_mul_of_pos_right m hk))
theorem eqv_ahead (p c : Wd) (n : Nat) {t : Nat} (ht : 1 ≤ t) : Eqv (p ++ rep n c, rep t c) (p, c) := by
  refine ⟨fun m => ⟨n + m * t, ?_⟩, fun m => ⟨m, ?_⟩⟩
  · show p ++ rep n c ++ rep m (rep t c) <+: p ++ rep (n + m * t) c
    rw [rep_add, ← rep_mul, List.append_assoc]
    exact List.prefix_refl _
  · show p ++ rep m c <+: p ++ rep n c ++ rep m (rep t c)
    rw [← rep_mul, List.append_assoc, ← rep_add]
    exact pre_app (rep_pre (Nat.le_trans (Nat.le_mul_of_pos_right m ht) (Nat.le_add_left _ _)))
theorem eqv_mem {r s : Wd × Wd} (h : Eqv r s) {x : Nat} (hx : x ∈ r.1 ++ r.2) : x ∈ s.1 ++ s.2 := by
  obtain ⟨m, e⟩ := h.1 1
  rw [rep_one] at e
  have := e.subset hx
  rcases List.mem_append.mp this with q | q
  · exact List.mem_append_left _ q
  · exact List.mem_append_right _ (rep_mem q)
theorem eqv_nil {r s : Wd × Wd} (h : Eqv r s) (hn : r.2 ≠ []) : s.2 ≠ [] := by
  intro e
  obtain ⟨m, q⟩ := h.1 (s.1.length + 1)
  have l := q.length_le
  rw [List.length_append, List.length_append, rep_len, rep_len, e] at l
  have := List.length_pos_iff.mpr hn
  have : s.1.length + 1 ≤ (s.1.length + 1) * r.2.length := Nat.le_mul_of_pos_right _ this
  simp at l
  omega
def Prim (c : Wd) : Prop := c ≠ [] ∧ ∀ s k, c = rep k s → k = 1
theorem rot_pow {x : Nat} {c s : Wd} {k : Nat} (h : x :: c = rep k s) : ∃ s', c ++ [x] = rep k s' := by
  cases s with
  | nil =>
    rw [rep_nil] at h
    cases h
  | cons y s =>
    cases k with
    | zero => cases h
    | succ k =>
      have ex : x = y := by
        rw [rep_succ] at h
        exact (List.cons.inj h).1
      subst ex
      refine ⟨s ++ [x], ?_⟩
      have := rep_rot x s (k + 1)
      rw [← h] at this
      exact (List.cons.inj this).2
theorem Prim.rot {x : Nat} {c : Wd} (h : Prim (c ++ [x])) : Prim (x :: c) := by
  refine ⟨List.cons_ne_nil _ _, fun s k e => ?_⟩
  obtain ⟨s', e'⟩ := rot_pow e
  exact h.2 s' k e'
theorem prim_least {c : Wd} {n : Nat} (hn : 1 ≤ n) (hc : c ≠ []) {k : Nat} (e : rep k (c.take n) = c) (hl : n ≤ c.length) (no : ∀ m, 1 ≤ m → m < n → c.length % m = 0 → rep (c.length / m) (c.take m) ≠ c) : Prim (c.take n) := by
  have len : (c.take n).length = n := by rw [List.length_take]; omega
  refine ⟨fun z => ?_, fun s j ej => ?_⟩
  · rw [z] at len
    simp at len
    omega
  · by_cases h0 : j = 0
    · subst h0
      rw [ej] at len
      simp [rep_zero] at len
      omega
    · have ln : n = j * s.length := by rw [← len, ej, rep_len]
      by_cases h1 : j = 1
      · exact h1
      · exfalso
        have sp : 1 ≤ s.length := by
          rcases Nat.eq_zero_or_pos s.length with z | z
          · rw [z] at ln
            omega
          · exact z
        have lt : s.length < n := by
          have : 2 * s.length ≤ j * s.length := Nat.mul_le_mul_right _ (by omega)
          omega
        have ec : rep (k * j) s = c := by rw [rep_mul, ← ej, e]
        have lc : c.length = k * j * s.length := by
          have := congrArg List.length ec
          rw [rep_len] at this
          exact this.symm
        have kj : 1 ≤ k * j := by
          rcases Nat.eq_zero_or_pos (k * j) with z | z
          · rw [z, rep_zero] at ec
            exact absurd ec.symm hc
          · exact z
        have tk : c.take s.length = s := by
          obtain ⟨q, hq⟩ := Nat.le.dest kj
          rw [← ec, ← hq, Nat.add_comm, rep_succ, List.take_left' rfl]
        refine no s.length sp lt (by rw [lc, Nat.mul_mod_left]) ?_
        rw [tk, lc, Nat.mul_div_cancel _ sp]
        exact ec
def NF (r : Wd × Wd) : Prop := Prim r.2 ∧ ∀ x, r.1.getLast? = some x → r.2.getLast? ≠ some x
def runL (D : Nat → Nat → Nat) (s : Nat) (l : Wd) : Nat := l.foldl D s
def outL (D : Nat → Nat → Nat) (f : Nat → Nat → Wd) : Nat → Wd → Wd
  | _, [] => []
  | s, x :: l => f s x ++ outL D f (D s x) l
def mx (D : Nat → Nat → Nat) (g : Nat → Nat → Nat) : Nat → Wd → Nat
  | _, [] => 0
  | s, x :: l => max (g s x) (mx D g (D s x) l)
section
variable {D : Nat → Nat → Nat} {f : Nat → Nat → Wd} {g : Nat → Nat → Nat}
theorem runL_app (s : Nat) (a b : Wd) : runL D s (a ++ b) = runL D (runL D s a) b := List.foldl_append
theorem outL_app (b : Wd) : ∀ (a : Wd) (s : Nat), outL D f s (a ++ b) = outL D f s a ++ outL D f (runL D s a) b
  | [], s => rfl
  | x :: a, s => by
    show f s x ++ outL D f (D s x) (a ++ b) = (f s x ++ outL D f (D s x) a) ++ _
    rw [outL_app b a, List.append_assoc]
    rfl
theorem mx_app (b : Wd) : ∀ (a : Wd) (s : Nat), mx D g s (a ++ b) = max (mx D g s a) (mx D g (runL D s a) b)
  | [], s => by show _ = max 0 _; rw [Nat.zero_max]; rfl
  | x :: a, s => by
    show max (g s x) (mx D g (D s x) (a ++ b)) = max (max (g s x) (mx D g (D s x) a)) _
    rw [mx_app b a, Nat.max_assoc]
    rfl
theorem run_rep {s : Nat} {c : Wd} (h : runL D s c = s) : ∀ m, runL D s (rep m c) = s
  | 0 => rfl
  | m + 1 => by rw [rep_succ, runL_app, h, run_rep h m]
theorem out_rep {s : Nat} {c : Wd} (h : runL D s c = s) : ∀ m, outL D f s (rep m c) = rep m (outL D f s c)
  | 0 => rfl
  | m + 1 => by rw [rep_succ, outL_app, h, out_rep h m, rep_succ]
theorem mx_rep {s : Nat} {c : Wd} (h : runL D s c = s) : ∀ m, mx D g s (rep m c) ≤ mx D g s c
  | 0 => Nat.zero_le _
  | m + 1 => by
    rw [rep_succ, mx_app, h]
    exact Nat.max_le.mpr ⟨Nat.le_refl _, mx_rep h m⟩
theorem out_pre {s : Nat} {a b : Wd} (h : a <+: b) : outL D f s a <+: outL D f s b := by
  obtain ⟨t, rfl⟩ := h
  rw [outL_app]
  exact List.prefix_append _ _
theorem mx_pre {s : Nat} {a b : Wd} (h : a <+: b) : mx D g s a ≤ mx D g s b := by
  obtain ⟨t, rfl⟩ := h
  rw [mx_app]
  exact Nat.le_max_left _ _
theorem out_sub {s0 u v : Nat} {p c p' c' : Wd} (h1 : runL D s0 p = u) (h2 : runL D u c = u) (h3 : runL D s0 p' = v) (h4 : runL D v c' = v) (h : Sub p c p' c') : Sub (outL D f s0 p) (outL D f u c) (outL D f s0 p') (outL D f v c') := by
  intro m
  obtain ⟨m', e⟩ := h m
  refine ⟨m', ?_⟩
  have := out_pre (D := D) (f := f) (s := s0) e
  rw [outL_app, outL_app, h1, h3, out_rep h2, out_rep h4] at this
  exact this
theorem mx_sub {s0 u v : Nat} {p c p' c' : Wd} (h1 : runL D s0 p = u) (h2 : runL D u c = u) (h3 : runL D s0 p' = v) (h4 : runL D v c' = v) (hc : c ≠ []) (h : Sub p c p' c') : mx D g u c ≤ mx D g v c' := by
  obtain ⟨m', e⟩ := h (p'.length + 1)
  rw [rep_succ', ← List.append_assoc] at e
  have lz : p'.length ≤ (p ++ rep p'.length c).length := by
    rw [List.length_append, rep_len]
    have := Nat.le_mul_of_pos_right p'.length (List.length_pos_iff.mpr hc)
    omega
  obtain ⟨z, hz⟩ : p' <+: p ++ rep p'.length c := List.prefix_of_prefix_length_le (List.prefix_append _ _) ((List.prefix_append _ _).trans e) lz
  have rz : runL D v z = u := by
    have := runL_app (D := D) s0 p' z
    rw [hz, h3, runL_app, h1, run_rep h2] at this
    exact this.symm
  rw [← hz, List.append_assoc] at e
  have e2 : z ++ c <+: rep m' c' := (List.prefix_append_right_inj p').mp e
  have q := mx_pre (D := D) (g := g) (s := v) e2
  rw [mx_app, rz] at q
  exact Nat.le_trans (Nat.le_trans (Nat.le_max_right _ _) q) (mx_rep h4 m')
theorem pigeon {n : Nat} (r : Nat → Nat) (h : ∀ i, i ≤ n → r i < n) : ∃ i j, i < j ∧ j ≤ n ∧ r i = r j := by
  apply Classical.byContradiction
  intro no
  have nd : ((List.range (n + 1)).map r).Nodup := by
    rw [List.Nodup, List.pairwise_map]
    refine List.Pairwise.imp_of_mem (R := (· < ·)) (fun {a b} ha hb lt e => ?_) List.pairwise_lt_range
    exact no ⟨a, b, lt, by have := List.mem_range.mp hb; omega, e⟩
  have sub : (List.range (n + 1)).map r ⊆ List.range n := by
    intro x hx
    obtain ⟨i, hi, rfl⟩ := List.mem_map.mp hx
    exact List.mem_range.mpr (h i (by have := List.mem_range.mp hi; omega))
  have := nd.length_le_of_subset sub
  rw [List.length_map, List.length_range, List.length_range] at this
  omega
theorem period {n s0 : Nat} {p c : Wd} (h : ∀ i, i ≤ n → runL D s0 (p ++ rep i c) < n) : ∃ t, 1 ≤ t ∧ t ≤ n ∧ runL D (runL D s0 (p ++ rep n c)) (rep t c) = runL D s0 (p ++ rep n c) := by
  obtain ⟨i, j, lt, le, e⟩ := pigeon (fun i => runL D s0 (p ++ rep i c)) h
  refine ⟨j - i, by omega, by omega, ?_⟩
  have e1 : runL D s0 (p ++ rep n c) = runL D (runL D s0 (p ++ rep i c)) (rep (n - i) c) := by
    rw [← runL_app, List.append_assoc, ← rep_add]
    congr 3
    omega
  have e2 : runL D (runL D s0 (p ++ rep n c)) (rep (j - i) c) = runL D (runL D s0 (p ++ rep j c)) (rep (n - i) c) := by
    rw [← runL_app, ← runL_app, List.append_assoc, List.append_assoc, ← rep_add, ← rep_add]
    congr 3
    omega
  rw [e2, e1]
  have e3 : runL D s0 (p ++ rep i c) = runL D s0 (p ++ rep j c) := e
  rw [e3]
theorem acc_mx {n s0 u : Nat} {p c p' c' : Wd} (h1 : runL D s0 p = u) (h2 : runL D u c = u) (hc : c ≠ []) (h : Eqv (p, c) (p', c')) (lt : ∀ i, i ≤ n → runL D s0 (p' ++ rep i c') < n) :
    mx D g (runL D s0 (p' ++ rep n c')) (rep n c') = mx D g u c := by
  obtain ⟨t, t1, t2, e⟩ := period lt
  have hc' : rep t c' ≠ [] := by
    have h0 : c' ≠ [] := eqv_nil h hc
    intro z
    have := congrArg List.length z
    rw [rep_len] at this
    have l0 := List.length_pos_iff.mpr h0
    have := Nat.le_mul_of_pos_right t l0
    simp at *
    omega
  have E : Eqv (p, c) (p' ++ rep n c', rep t c') := h.trans (eqv_ahead p' c' n t1).symm
  have m1 : mx D g u c = mx D g (runL D s0 (p' ++ rep n c')) (rep t c') := Nat.le_antisymm (mx_sub h1 h2 rfl e hc E.1) (mx_sub rfl e h1 h2 hc' E.2)
  rw [m1]
  refine Nat.le_antisymm ?_ (mx_pre (rep_pre t2))
  refine Nat.le_trans (mx_pre (rep_pre (Nat.le_mul_of_pos_right n t1))) ?_
  rw [rep_mul]
  exact mx_rep e n
end
end K42
set_option Elab.async false
set_option linter.all false
set_option maxRecDepth 100000
namespace K42
open PySem PySem.Spec PyProof.Rows L2 SX
theorem cut_to {a : Wd} {i : Int} (h : 0 ≤ i) : cutS (S a) none (some i) = S (a.take i.toNat) := by
  rw [C8.cutS_slice]
  exact slice_to h
theorem cut_butlast {a : Wd} (c : Nat) : cutS (S (a ++ [c])) none (some (-1)) = S a := by
  rw [C8.cutS_slice]
  exact butlast_snoc a c
theorem cut_last {a : Wd} (c : Nat) : cutS (S (a ++ [c])) (some (-1)) none = S [c] := by
  rw [C8.cutS_slice]
  exact last_snoc a c
theorem cut_last_nil : cutS (S []) (some (-1)) none = S [] := by
  rw [C8.cutS_slice]
  rfl
theorem foldl_repS (c : Array Nat) : ∀ (k : Nat) (acc : Array Nat), ((List.replicate k c).foldl (· ++ ·) acc).toList = acc.toList ++ rep k c.toList
  | 0, acc => by simp [rep_zero]
  | k + 1, acc => by
    rw [List.replicate_succ, List.foldl_cons, foldl_repS c k, rep_succ]
    simp
theorem mul_S (a : Wd) {i : Int} (h : 0 ≤ i) : Txt.mul (S a) i = S (rep i.toNat a) := by
  unfold Txt.mul
  by_cases h1 : i < 1
  · rw [if_pos h1]
    have e : i.toNat = 0 := by omega
    rw [e]
    rfl
  · rw [if_neg h1]
    by_cases h2 : i = 1
    · subst h2
      show S a = S (rep 1 a)
      rw [rep_one]
    · by_cases h3 : a = []
      · subst h3
        rw [rep_nil]
        have e : (i == 1 || (S []).length == 0) = true := by
          rw [show ((S []).length == 0) = true from rfl, Bool.or_true]
        rw [if_pos e]
      · have e : (i == 1 || (S a).length == 0) = false := by
          have a1 : (i == 1) = false := by simpa using h2
          have a2 : ((S a).length == 0) = false := by
            rw [S_len]
            have := List.length_pos_iff.mpr h3
            simp
            exact h3
          rw [a1, a2]
          rfl
        rw [e, if_neg Bool.false_ne_true]
        refine TL.ext_tl ?_
        show ((List.replicate i.toNat a.toArray).foldl (· ++ ·) #[]).toList = rep i.toNat a
        rw [foldl_repS]
        rfl
def six (a : Wd) (c : Nat) : Nat := (Builtin.Str.occurrences (S a) (S [c]) 0 (S a).length 1).headD 0
theorem sub_one {a : Wd} {c i : Nat} (h1 : i + 1 ≤ a.length) (h : Builtin.Str.subAt (S a) (S [c]) i = true) : a[i]? = some c := by
  unfold Builtin.Str.subAt at h
  have e := eq_of_beq h
  have e2 := congrArg Array.toList e
  rw [Array.toList_extract] at e2
  have e3 : ((a.drop i).take 1) = [c] := by
    have : (S a).cps.toList = a := rfl
    simpa [S, Str.length, List.extract] using e2
  cases hd : a.drop i with
  | nil => rw [hd] at e3; cases e3
  | cons y r =>
    rw [hd] at e3
    have : y = c := (List.cons.inj e3).1
    subst this
    have := congrArg (fun l => l[0]?) hd
    simpa using this
theorem six_occ {a : Wd} {c : Nat} (h : c ∈ a) : (∃ rest, Builtin.Str.occurrences (S a) (S [c]) 0 (S a).length 1 = six a c :: rest) ∧ a[six a c]? = some c := by
  have f := in_one a c
  rw [decide_eq_true h] at f
  cases hl : Builtin.Str.occurrences (S a) (S [c]) 0 (S a).length 1 with
  | nil =>
    rw [hl] at f
    cases f
  | cons i rest =>
    have e : six a c = i := by
      unfold six
      rw [hl]
      rfl
    rw [e]
    refine ⟨⟨rest, rfl⟩, ?_⟩
    have hm := StrLaws.occ_spec (S a) (S [c]) 0 (S a).length 1 i (by rw [hl]; exact List.mem_cons_self)
    refine sub_one ?_ hm.2
    have := hm.1
    rw [S_len, S_len] at this
    exact this
theorem six_lt {a : Wd} {c : Nat} (h : c ∈ a) : six a c < a.length := (List.getElem?_eq_some_iff.mp (six_occ h).2).1
theorem joinL_nil : ∀ l : List Wd, TL.joinL [] l = l.flatten
  | [] => rfl
  | [p] => by simp [TL.joinL]
  | p :: q :: r => by
    show p ++ ([] ++ TL.joinL [] (q :: r)) = _
    rw [joinL_nil (q :: r)]
    rfl
theorem join_nil (l : List Wd) : Txt.join (S []) (l.map S) = S l.flatten := by rw [join_S, joinL_nil]
theorem spl_strip (c : Nat) : ∀ (l acc : Wd), (TL.spl [c] 0 acc l).flatten = acc ++ l.filter (fun x => decide (x ≠ c))
  | [], acc => by
    rw [TL.spl_nil]
    simp
  | x :: l, acc => by
    by_cases e : x = c
    · subst e
      rw [TL.spl_hit (by simp [TL.pre])]
      show acc ++ (TL.spl [x] 0 [] l).flatten = _
      rw [spl_strip x l []]
      simp
    · rw [TL.spl_miss (by simp [TL.pre]; exact e), spl_strip c l (acc ++ [x])]
      simp [e]
end K42
set_option Elab.async false
set_option linter.all false
set_option maxRecDepth 100000
set_option maxHeartbeats 4000000
namespace K42
open PySem PySem.Spec PyProof.Rows L2

def FrmV (H : Hp) (v : V) (p : Nd × Nat) : Prop := ∃ q a, v = .ref q ∧ H q = some (.tup [.ref a, .int (p.2 : Nat)]) ∧ H a = some (.tup (p.1.map kV))
theorem FrmV.mono {H H' : Hp} {v : V} {p : Nd × Nat} (t : TSame H H') (h : FrmV H v p) : FrmV H' v p := let ⟨q, a, e, h1, h2⟩ := h; ⟨q, a, e, t _ _ h1, t _ _ h2⟩
def sp_finish_order : Sp := fun vs H Q _ => ∃ (d : Addr) (kvs : List (Nd × V)) (g : Gph), vs = [.ref d] ∧ GphAt H d kvs g ∧ GOk' g ∧
  ∀ (l : Addr) (H' : Hp) (os : List V) (O : List Nd), Same H H' → H l = none → H' l = some (.lst os) → Paired (KeyV H') os O → FinOk (outs g) O → (∀ u ∈ gkeys g, u ∈ O) → (∀ u ∈ O, u ∈ gkeys g) → os.length ≤ 2000 → Q (.ref l) H'
def sn (sk : List (Nd × V)) (u : Nd) : Bool := (valV sk u).isSome
def mu (g : Gph) (sk : List (Nd × V)) (fs : List (Nd × Nat)) : Nat := wsum (sn sk) (ufw (outs g)) (gkeys g) + fwts (outs g) fs
structure FoS (B : Hp) (sd od : Addr) (g : Gph) (n : Nat) (fs : List (Nd × Nat)) (sk : List (Nd × V)) (os : List V) (O : List Nd) (H' : Hp) : Prop where
  same : Same B H'
  nsd : B sd = none
  nod : B od = none
  hs : H' sd = some (.dT sk)
  ho : H' od = some (.lst os)
  po : Paired (KeyV H') os O
  di : DI (outs g) (gkeys g) (fun u => sn sk u = true) O fs
  b1 : os.length + mu g sk fs ≤ n
  b2 : sk.length + mu g sk fs ≤ n
theorem gkeys_deg {g : Gph} (ok : GOk' g) (sk : List (Nd × V)) : wsum (sn sk) (ufw (outs g)) (gkeys g) ≤ 1260 := by
  have h := wsum_le (A := sn sk) (f := ufw (outs g)) (c := 21) (l := gkeys g) fun x _ => by
    have d := ok.deg x
    unfold ufw outs
    rw [List.length_map]
    omega
  have l1 : (gkeys g).length ≤ 60 := by
    unfold gkeys
    rw [List.length_map]
    exact ok.len
  have : 21 * (gkeys g).length ≤ 21 * 60 := Nat.mul_le_mul_left _ l1
  omega
theorem FoS.ext {B : Hp} {sd od : Addr} {g : Gph} {n : Nat} {fs : List (Nd × Nat)} {sk : List (Nd × V)} {os : List V} {O : List Nd} {H H' : Hp} (S : FoS B sd od g n fs sk os O H) (s : Same H H') : FoS B sd od g n fs sk os O H' :=
  ⟨S.same.trans s, S.nsd, S.nod, s _ _ S.hs, s _ _ S.ho, paired_imp S.po fun _ _ r => r.mono (.of s), S.di, S.b1, S.b2⟩
theorem FoS.other {B : Hp} {sd od st : Addr} {g : Gph} {n : Nat} {fs : List (Nd × Nat)} {sk : List (Nd × V)} {os : List V} {O : List Nd} {H : Hp} {xs : List V} {o : HO} (S : FoS B sd od g n fs sk os O H) (h : H st = some (.lst xs)) (n0 : B st = none) (n1 : st ≠ sd) (n2 : st ≠ od) :
    FoS B sd od g n fs sk os O (upd H st o) :=
  ⟨same_mut S.same n0, S.nsd, S.nod, by rw [upd_ne n1.symm]; exact S.hs, by rw [upd_ne n2.symm]; exact S.ho, paired_imp S.po fun _ _ r => r.mono ((TSame.refl H).mut h fun _ e => nomatch e), S.di, S.b1, S.b2⟩
theorem sn_put (sk : List (Nd × V)) (u x : Nd) (v : V) : sn (putK sk u v) x = true ↔ sn sk x = true ∨ x = u := by
  unfold sn
  rw [valV_put]
  by_cases h : x = u
  · simp [h]
  · simp [h]
section
variable {P : Program} {w : World} {K : PySem.W.Frag} {mg : Str → Option Value} {base : Heap}
theorem sc_finish_order : FnScope ["edges", "seen", "order", "root", "stack", "node", "place"] ["edges"] (defScope s_g_finish_order) := ⟨rfl, rfl, rfl, by decide +kernel, rfl, by decide +kernel, by decide +kernel⟩
theorem ok_finish_order (T : Tp K mg)  : GOk P w K mg base "finish_order" 1 ["edges"] sp_finish_order := by
  refine gok_of (st := s_g_finish_order) T.fd_g_finish_order T.g_finish_order sc_finish_order (fun _ _ _ _ _ _ us hl => match us, hl with | [_], _ => rfl) (fun vs H Q E h => ?_) (fun cdv A outer s H vs Q E hr h => ?_)
  · obtain ⟨d, kvs, g, rfl, _⟩ := h
    rfl
  · obtain ⟨d, kvs, g, rfl, GA, ok, k⟩ := h
    have hu := hu_of hr
    refine ⟨_, (pss_cons (ps_par (i := 1) (j := 2) (by rfl) sc_finish_order.nd rfl rfl (by decide) rfl rfl (pa_cons pe_dnewT (pa_cons (pe_lst pa_nil) pa_nil)) (by rfl))
      (pss_cons (ps_lock (ps_for PassesOwn.never rfl (pi_keys (pv 0)) (pg_name (i := 3) sc_finish_order.nd rfl (by first | exact Or.inl rfl | exact Or.inr rfl)) (pss_cons (ps_set (i := 4) sc_finish_order.nd rfl (by first | exact Or.inl rfl | exact Or.inr rfl) (pe_lst (pa_cons (pe_tup (pa_cons (pv 3) (pa_cons pe_int pa_nil))) pa_nil)))
      (pss_one (ps_while PassesOwn.never (pt_cmpR (op_neNil hr.units0) (pv 4) (pe_lst pa_nil) (nomark _)) (pss_cons (ps_asg (pe_bm0 PySem.F.plainAttrs_list PySem.F.slot_list_pop PySem.F.type_list_pop mt_pop (pv 4)) (pg_tupK K (n := 2) (by rfl) (pgs_cons (pg_name (i := 5) sc_finish_order.nd rfl (by first | exact Or.inl rfl | exact Or.inr rfl)) (pgs_cons (pg_name (i := 6) sc_finish_order.nd rfl (by first | exact Or.inl rfl | exact Or.inr rfl)) pgs_nil))))
      (pss_cons (ps_if (PW.pt (pw_and (pt_cmpR op_eq (pv 6) pe_int (nomark _)) (pw_and1 (pt_cmp (pc_din hu (pv 5) (pv 1)))))) (pss_one ps_continue) pss_nil)
      (pss_cons (ps_dput hu (pv 1) (pv 5) pe_bl rfl)
      (pss_one (ps_if (pt_cmpR op_eq (pv 6) (pe_callB (len_seqK K) (by rfl) T.b_len PySem.boot_len (pa_cons (pe_dget hu (pv 0) (pv 5) (fun _ _ => rfl)) pa_nil)) (nomark _)) (pss_one (ps_expr (pe_bm PySem.F.plainAttrs_list PySem.F.slot_list_append PySem.F.type_list_append mt_append (pv 2) (pa_cons (pv 5) pa_nil)))) (pss_cons (ps_expr (pe_bm PySem.F.plainAttrs_list PySem.F.slot_list_append PySem.F.type_list_append mt_append (pv 4) (pa_cons (pe_tup (pa_cons (pv 5) (pa_cons (pe_op op_add (pv 6) pe_int) pa_nil))) pa_nil)))
      (pss_one (ps_expr (pe_bm PySem.F.plainAttrs_list PySem.F.slot_list_append PySem.F.type_list_append mt_append (pv 4) (pa_cons (pe_tup (pa_cons (pe_ix (ix_tupK K) (pe_ix (ix_listK K) (pe_dget hu (pv 0) (pv 5) (fun _ _ => rfl)) (pv 6) (fun _ _ => rfl)) pe_int (fun _ _ => rfl)) (pa_cons pe_int pa_nil))) pa_nil)))))))))))))))
      (pss_one (ps_ret (pv 2))))), ?_⟩
    intro sd hsd
    refine ⟨Nat.zero_le _, fun od hod => ⟨_, _, rfl, ?_⟩⟩
    have nso : sd ≠ od := fun e => by
      rw [← e, upd_same] at hod
      cases hod
    have hod0 : H od = none := by
      rw [upd_ne nso.symm] at hod
      exact hod
    have nds : d ≠ sd := ne_of_none GA.dict hsd
    have ndo : d ≠ od := ne_of_none GA.dict hod0
    have hd1 : (upd (upd H sd (.dT [])) od (.lst [])) d = some (.dT kvs) := by
      rw [upd_ne ndo, upd_ne nds]
      exact GA.dict
    refine ⟨d, _, hd1, trivial, fun ob => ?_⟩
    obtain ⟨B, eB⟩ : ∃ B, B = upd H d (.frz ob (.dT kvs)) := ⟨_, rfl⟩
    have hBd : B d = some (.frz ob (.dT kvs)) := by rw [eB]; exact upd_same
    have nBs : B sd = none := by rw [eB, upd_ne nds.symm]; exact hsd
    have nBo : B od = none := by rw [eB, upd_ne ndo.symm]; exact hod0
    have tsB : TSame H B := by
      rw [eB]
      exact tsame_lock GA.dict (fun _ e => nomatch e)
    have entB : ∀ u ∈ gkeys g, ∃ l ws, valV kvs u = some (.ref l) ∧ B l = some (.lst ws) ∧ Paired (EdgeV B) ws (look g u) := fun u hu => by
      obtain ⟨l, ws, e1, e2, e3⟩ := ents_val GA.ents hu
      refine ⟨l, ws, e1, ?_, paired_imp e3 fun _ _ r => r.mono tsB⟩
      rw [eB, upd_ne (ne_of e2 GA.dict (fun e => nomatch e))]
      exact e2
    refine ⟨_, rfl, d, ob, rfl, .inr ⟨kvs, upd_same, ?_⟩⟩
    refine for_it walk_keysT (fun i σ H' => ∃ r4 r5 r6 r7 sk os O, σ = [some (V.ref d), some (V.ref sd), some (V.ref od), r4, r5, r6, r7] ∧ FoS B sd od g (1260 + i) [] sk os O H' ∧ ∀ (j : Nat) u, j < i → (gkeys g)[j]? = some u → sn sk u = true) ?_ ?_ ?_ ?_
    · -- the start
      refine ⟨none, none, none, none, [], [], [], rfl, ⟨?_, nBs, nBo, ?_, ?_, .nil, ?_, ?_, ?_⟩, fun j u h => by omega⟩
      · intro a o e
        rw [eB] at e
        by_cases q : a = d
        · subst q
          rw [upd_same] at e ⊢
          exact e
        · rw [upd_ne q] at e ⊢
          rw [upd_ne (ne_of_none e hod0), upd_ne (ne_of_none e hsd)]
          exact e
      · rw [upd_ne nds.symm, upd_ne nso, upd_same]
      · rw [upd_ne ndo.symm, upd_same]
      · have z : (fun u => sn [] u = true) = fun _ : Nd => False := by
          funext u
          simp [sn, valV]
        rw [z]
        exact DI.start
      · have := gkeys_deg ok []
        unfold mu fwts
        simp
        omega
      · have := gkeys_deg ok []
        unfold mu fwts
        simp
        omega
    · rintro i σ H' _ ⟨_, _, _, _, sk, os, O, _, S, _⟩
      exact S.same _ _ hBd
    · -- one root
      rintro i x σ H' H2 hi ⟨r4, r5, r6, r7, sk, os, O, rfl, S, done⟩ ⟨rfl, ku, vu, qa, hix, rfl, hq⟩
      have kin : (gkeys g)[i]? = some ku := by
        rw [← ents_keys GA.ents, List.getElem?_map, hix]
        rfl
      have kmem : ku ∈ gkeys g := List.mem_of_getElem? kin
      refine ⟨_, rfl, (by show 2 ≤ sizeLine; decide), fun t0 ht0 => ⟨(by show 1 ≤ sizeLine; decide), fun st hst => ?_⟩⟩
      have nt0 : B t0 = none := S.same.free ht0
      have nst' : H2 st = none := by
        rw [upd_ne (fun e => by rw [e, upd_same] at hst; cases hst)] at hst
        exact hst
      have nst : B st = none := S.same.free nst'
      have nso2 : st ≠ od := (ne_of_none S.ho nst').symm
      have nss2 : st ≠ sd := (ne_of_none S.hs nst').symm
      have nts : t0 ≠ st := fun e => by
        rw [← e, upd_same] at hst
        cases hst
      have s1 : Same H2 (upd (upd H2 t0 (.tup [V.ref qa, V.int 0])) st (.lst [V.ref t0])) := (same_new ht0).trans (same_new hst)
      refine ⟨fun m σ H' => ∃ r6 r7 sk os O vs fs, σ = [some (V.ref d), some (V.ref sd), some (V.ref od), some (V.ref qa), some (V.ref st), r6, r7] ∧ H' st = some (.lst vs.reverse) ∧ Paired (FrmV H') vs fs ∧ FoS B sd od g (1260 + (i + 1)) fs sk os O H' ∧
        (∀ (j : Nat) u, j < i → (gkeys g)[j]? = some u → sn sk u = true) ∧ (sn sk ku = true ∨ ∃ k, (ku, k) ∈ fs) ∧ m = mu g sk fs, ?_, ?_⟩
      · refine ⟨_, r6, r7, sk, os, O, [V.ref t0], [(ku, 0)], rfl, upd_same, .cons ⟨t0, qa, rfl, ?_, ?_⟩ .nil, ⟨?_, S.nsd, S.nod, s1 _ _ S.hs, s1 _ _ S.ho, paired_imp S.po fun _ _ r => r.mono (.of s1), S.di.root kmem, ?_, ?_⟩, done, .inr ⟨0, List.mem_cons_self⟩, rfl⟩
        · rw [upd_ne nts, upd_same]
          rfl
        · exact s1 _ _ hq
        · exact S.same.trans s1
        · have b := S.b1
          unfold mu at b ⊢
          rw [fwts_cons, fwt_zero]
          have z : fwts (outs g) [] = 0 := rfl
          rw [z] at b ⊢
          omega
        · have b := S.b2
          unfold mu at b ⊢
          rw [fwts_cons, fwt_zero]
          have z : fwts (outs g) [] = 0 := rfl
          rw [z] at b ⊢
          omega
      · rintro m σ H3 ⟨r6, r7, sk, os, O, vs, fs, rfl, hst3, pf, S3, done3, root3, rfl⟩
        refine ⟨_, rfl, Nat.zero_le _, fun e0 he0 => ⟨st, e0, _, rfl, rfl, SqL.of (by rw [upd_ne (ne_of_none hst3 he0)]; exact hst3), SqL.of upd_same, _, rfl, ?_⟩⟩
        have se : Same H3 (upd H3 e0 (.lst [])) := same_new he0
        generalize upd H3 e0 (.lst []) = H4 at se ⊢
        have S4 : FoS B sd od g (1260 + (i + 1)) fs sk os O H4 := ⟨S3.same.trans se, S3.nsd, S3.nod, se _ _ S3.hs, se _ _ S3.ho, paired_imp S3.po fun _ _ r => r.mono (.of se), S3.di, S3.b1, S3.b2⟩
        have hst4 := se _ _ hst3
        have pf4 := paired_imp pf fun _ _ r => r.mono (.of se)
        cases pf4 with
        | nil =>
          refine iteF ?_
          refine ⟨_, _, _, _, sk, os, O, rfl, S4, fun j u hj hu' => ?_⟩
          by_cases hji : j = i
          · subst hji
            rw [kin] at hu'
            cases hu'
            rcases root3 with z | ⟨_, z⟩
            · exact z
            · cases z
          · exact done3 j u (by omega) hu'
        | @cons v p vs fs hp pf4 =>
          obtain ⟨u, n⟩ := p
          have ne : (!(v :: vs).reverse.isEmpty) = true := by simp
          rw [ne]
          refine iteT ⟨_, fun _ _ h => h, ?_⟩
          obtain ⟨q, a, rfl, hq4, ha4⟩ := hp
          have last : (V.ref q :: vs).reverse[(V.ref q :: vs).reverse.length - 1]? = some (V.ref q) := by simp
          have dl : (V.ref q :: vs).reverse.dropLast = vs.reverse := by simp
          refine ⟨_, rfl, .inl ⟨rfl, _, SqL.of hst4⟩, st, _, _, rfl, rfl, hst4, last, ?_⟩
          rw [dl]
          have S5 := S4.other (o := .lst vs.reverse) hst4 nst nss2 nso2
          have t5 : TSame H4 (upd H4 st (.lst vs.reverse)) := (TSame.refl H4).mut hst4 fun _ e => nomatch e
          have hst5 : (upd H4 st (.lst vs.reverse)) st = some (.lst vs.reverse) := upd_same
          have hq5 := t5 _ _ hq4
          have ha5 := t5 _ _ ha4
          have pf5 := paired_imp pf4 fun _ _ r => r.mono t5
          generalize upd H4 st (.lst vs.reverse) = H5 at S5 t5 hst5 hq5 ha5 pf5 ⊢
          refine ⟨q, _, rfl, SqT.of hq5, rfl, _, _, rfl, _, _, rfl, rfl, ?_⟩
          by_cases hv : n = 0 ∧ sn sk u = true
          · -- it was seen
            with_reducible show tSeq _ _ _ _ _
            refine st_seq ?_
            refine st_yes (ans_and (fun Q q => ⟨_, rfl, rfl, _, rfl, by rw [show decide (V.int ((n : Nat) : Int) = V.int 0) = true from decide_eq_true (by rw [hv.1]; rfl)]; exact q⟩)
              (fun Q q => ⟨_, rfl, _, rfl, sd, _, rfl, DGet.t S5.hs ha5, _, rfl, by rw [show (valV sk u).isSome = true from hv.2]; exact q⟩)) ?_
            obtain ⟨e0', hv2⟩ := hv
            subst e0'
            refine ⟨mu g sk fs, ?_, _, _, sk, os, O, vs, fs, rfl, hst5, pf5, ⟨S5.same, S5.nsd, S5.nod, S5.hs, S5.ho, S5.po, S5.di.skip hv2, ?_, ?_⟩, done3, ?_, rfl⟩
            · have := mu_skip (out := outs g) (u := u) (r := fs)
              unfold mu
              omega
            · have := mu_skip (out := outs g) (u := u) (r := fs)
              have := S5.b1
              unfold mu at this ⊢
              omega
            · have := mu_skip (out := outs g) (u := u) (r := fs)
              have := S5.b2
              unfold mu at this ⊢
              omega
            · rcases root3 with z | ⟨k', z⟩
              · exact .inl z
              · rcases List.mem_cons.mp z with e | e
                · cases e
                  exact .inl hv2
                · exact .inr ⟨k', e⟩
          · -- it is entered
            have no : Ans (tAnd (tTest (tOp rEq (tVar 6) (tC (.int 0)))) (tB (tDIn (tVar 5) (tVar 1)))) [some (V.ref d), some (V.ref sd), some (V.ref od), some (V.ref qa), some (V.ref st), some (V.ref a), some (V.int ((n : Nat) : Int))] H5 (decide (V.int ((n : Nat) : Int) = V.int 0) && (valV sk u).isSome) :=
              ans_and2 (fun Q q => ⟨_, rfl, rfl, _, rfl, q⟩) (fun Q q => ⟨_, rfl, _, rfl, sd, _, rfl, DGet.t S5.hs ha5, _, rfl, q⟩)
            have e2 : (decide (V.int ((n : Nat) : Int) = V.int 0) && (valV sk u).isSome) = false := by
              refine Bool.eq_false_iff.mpr fun z => hv ?_
              obtain ⟨z1, z2⟩ := Bool.and_eq_true_iff.mp z
              have z3 := V.int.inj (of_decide_eq_true z1)
              exact ⟨by omega, z2⟩
            rw [e2] at no
            with_reducible show tSeq _ _ _ _ _
            refine st_seq ?_
            refine st_no no ?_
            have b1 := S5.b1
            have b2 := S5.b2
            have hun := (S5.di.fr (u, n) List.mem_cons_self).1
            have lsz : ∀ {x : Nat}, x ≤ 1260 + (i + 1) → x < sizeLine := fun {x} hx => by
              have h1 : i < kvs.length := hi
              have h2 : kvs.length = g.length := paired_len GA.ents
              have h3 := ok.len
              rw [sizeLine_eq]
              omega
            refine ⟨_, rfl, _, rfl, sd, _, rfl, DPut.t S5.hs ha5 (lsz (by omega)), ?_⟩
            have t6 : TSame H5 (upd H5 sd (.dT (putK sk u (.bl true)))) := (TSame.refl H5).mut S5.hs fun _ e => nomatch e
            have same6 : Same B (upd H5 sd (.dT (putK sk u (.bl true)))) := same_mut S5.same S5.nsd
            have hs6 : (upd H5 sd (.dT (putK sk u (.bl true)))) sd = some (.dT (putK sk u (.bl true))) := upd_same
            have ho6 : (upd H5 sd (.dT (putK sk u (.bl true)))) od = some (.lst os) := by rw [upd_ne nso.symm]; exact S5.ho
            have hst6 : (upd H5 sd (.dT (putK sk u (.bl true)))) st = some (.lst vs.reverse) := by rw [upd_ne nss2]; exact hst5
            have ha6 := t6 _ _ ha5
            have pf6 := paired_imp pf5 fun _ _ r => r.mono t6
            have po6 := paired_imp S5.po fun _ _ r => r.mono t6
            generalize upd H5 sd (.dT (putK sk u (.bl true))) = H6 at t6 same6 hs6 ho6 hst6 ha6 pf6 po6 ⊢
            obtain ⟨l, ws, hl1, hl2, hl3⟩ := entB u hun
            have hl6 := same6 _ _ hl2
            have hd6 := same6 _ _ hBd
            have gd : DGet H6 d (.ref a) (some (.ref l)) := .inr ⟨kvs, u, a, .inr ⟨ob, hd6⟩, rfl, ha6, hl1.symm⟩
            have wl : ws.length = (outs g u).length := by
              unfold outs
              rw [List.length_map]
              exact paired_len hl3
            have memS : ∀ x, sn (putK sk u (V.bl true)) x = true ↔ sn sk x = true ∨ x = u := fun x => sn_put sk u x _
            have lput := length_putK sk u (V.bl true)
            have done6 : ∀ (j : Nat) u', j < i → (gkeys g)[j]? = some u' → sn (putK sk u (V.bl true)) u' = true := fun j u' h1 h2 => (memS u').mpr (.inl (done3 j u' h1 h2))
            refine ⟨_, rfl, _, rfl, _, rfl, d, _, rfl, gd, l, ws, rfl, .inl (SqL.of hl6), rfl, _, rfl, ?_⟩
            refine ite2 (fun hc => ?_) (fun hc => ?_)
            · -- it is finished
              have hn : n = (outs g u).length := by
                have z3 := V.int.inj (of_decide_eq_true hc)
                omega
              have mf := mu_fin (out := outs g) (ns := gkeys g) (u := u) (k := n) (r := fs) (A := sn sk) (A' := sn (putK sk u (V.bl true))) memS
              refine ⟨_, rfl, .inl ⟨rfl, _, SqL.of ho6⟩, _, rfl, od, _, _, rfl, rfl, ho6, lsz (by omega), ?_⟩
              have t7 : TSame H6 (upd H6 od (.lst (os ++ [.ref a]))) := (TSame.refl H6).mut ho6 fun _ e => nomatch e
              refine ⟨mu g (putK sk u (V.bl true)) fs, by unfold mu; omega, _, _, putK sk u (V.bl true), os ++ [.ref a], O ++ [u], vs, fs, rfl, by rw [upd_ne nso2]; exact hst6, paired_imp pf6 fun _ _ r => r.mono t7,
                ⟨same_mut same6 S5.nod, S5.nsd, S5.nod, by rw [upd_ne nso]; exact hs6, upd_same, paired_app (paired_imp po6 fun _ _ r => r.mono t7) (.cons ⟨a, rfl, t7 _ _ ha6⟩ .nil), S5.di.finish hv memS hn, ?_, ?_⟩, done6, ?_, rfl⟩
              · rw [List.length_append, List.length_singleton]
                unfold mu at b1 ⊢
                omega
              · unfold mu at b2 ⊢
                omega
              · rcases root3 with z | ⟨k', z⟩
                · exact .inl ((memS ku).mpr (.inl z))
                · rcases List.mem_cons.mp z with e | e
                  · cases e
                    exact .inl ((memS _).mpr (.inr rfl))
                  · exact .inr ⟨k', e⟩
            · -- its next target
              have hn : n < (outs g u).length := by
                have h1 : n ≤ (outs g u).length := (S5.di.fr (u, n) List.mem_cons_self).2.1
                have h2 : n ≠ (outs g u).length := fun e => hc (decide_eq_true (congrArg V.int (by omega)))
                omega
              have hnl : n < (look g u).length := by
                unfold outs at hn
                rw [List.length_map] at hn
                exact hn
              have mp := mu_push (out := outs g) (ns := gkeys g) (u := u) (k := n) (r := fs) (A := sn sk) (A' := sn (putK sk u (V.bl true))) (t := ((look g u)[n]).2) hv memS hun hn (fun h => ((S5.di.fr (u, n) List.mem_cons_self).2.2 h).1)
              obtain ⟨ev, he1, he2⟩ := paired_get' hl3 (List.getElem?_eq_getElem hnl)
              obtain ⟨pe, ta, ka, rfl, hpe, hta, hka⟩ := he2
              have lenS : vs.reverse.length = fs.length := by rw [List.length_reverse]; exact paired_len pf6
              have lenF := fwts_len (outs g) ((u, n) :: fs)
              rw [List.length_cons] at lenF
              have mub : fwts (outs g) ((u, n) :: fs) ≤ mu g sk ((u, n) :: fs) := Nat.le_add_left _ _
              refine ⟨_, rfl, .inl ⟨rfl, _, SqL.of hst6⟩, _, rfl, _, rfl, _, _, rfl, rfl, (by show 2 ≤ sizeLine; decide), fun t1 ht1 => ⟨st, _, _, rfl, rfl, by rw [upd_ne (ne_of_none hst6 ht1)]; exact hst6, lsz (by omega), ?_⟩⟩
              have nt1 : t1 ≠ st := (ne_of_none hst6 ht1).symm
              have s7 : Same H6 (upd H6 t1 (.tup [.ref a, .int (((n : Nat) : Int) + 1)])) := same_new ht1
              have f7 : (upd H6 t1 (.tup [.ref a, .int (((n : Nat) : Int) + 1)])) t1 = some (.tup [.ref a, .int ((n + 1 : Nat) : Int)]) := upd_same
              generalize upd H6 t1 (.tup [.ref a, .int (((n : Nat) : Int) + 1)]) = H7 at s7 f7 ⊢
              have t8 : TSame H7 (upd H7 st (.lst (vs.reverse ++ [.ref t1]))) := (TSame.refl H7).mut (s7 _ _ hst6) fun _ e => nomatch e
              have g8 : (upd H7 st (.lst (vs.reverse ++ [.ref t1]))) st = some (.lst (vs.reverse ++ [.ref t1])) := upd_same
              have same8 : Same B (upd H7 st (.lst (vs.reverse ++ [.ref t1]))) := same_mut (same6.trans s7) nst
              have hs8 : (upd H7 st (.lst (vs.reverse ++ [.ref t1]))) sd = some (.dT (putK sk u (.bl true))) := by rw [upd_ne nss2.symm]; exact s7 _ _ hs6
              have ho8 : (upd H7 st (.lst (vs.reverse ++ [.ref t1]))) od = some (.lst os) := by rw [upd_ne nso2.symm]; exact s7 _ _ ho6
              have t68 : TSame H6 (upd H7 st (.lst (vs.reverse ++ [.ref t1]))) := (TSame.of s7).trans t8
              have f8 := t8 _ _ f7
              generalize upd H7 st (.lst (vs.reverse ++ [.ref t1])) = H8 at t8 g8 same8 hs8 ho8 t68 f8 ⊢
              have ha8 := t68 _ _ ha6
              have gd8 : DGet H8 d (.ref a) (some (.ref l)) := .inr ⟨kvs, u, a, .inr ⟨ob, same8 _ _ hBd⟩, rfl, ha8, hl1.symm⟩
              refine ⟨_, rfl, .inl ⟨rfl, _, SqL.of g8⟩, _, rfl, _, rfl, d, _, rfl, gd8, _, rfl, l, ws, _, _, rfl, rfl, SqL.of (same8 _ _ hl2), atI_nat he1, pe, _, _, V.ref ka, rfl, rfl, SqT.of (same8 _ _ hpe), rfl, (by show 2 ≤ sizeLine; decide), fun t2 ht2 =>
                ⟨st, _, _, rfl, rfl, by rw [upd_ne (ne_of_none g8 ht2)]; exact g8, lsz (by rw [List.length_append, List.length_singleton]; omega), ?_⟩⟩
              have s9 : Same H8 (upd H8 t2 (.tup [.ref ka, .int 0])) := same_new ht2
              have f9 : (upd H8 t2 (.tup [.ref ka, .int 0])) t2 = some (.tup [.ref ka, .int ((0 : Nat) : Int)]) := upd_same
              generalize upd H8 t2 (.tup [.ref ka, .int 0]) = H9 at s9 f9 ⊢
              have tA : TSame H9 (upd H9 st (.lst (vs.reverse ++ [.ref t1] ++ [.ref t2]))) := (TSame.refl H9).mut (s9 _ _ g8) fun _ e => nomatch e
              have t6A : TSame H6 (upd H9 st (.lst (vs.reverse ++ [.ref t1] ++ [.ref t2]))) := (t68.trans (.of s9)).trans tA
              have e3 : (outs g u)[n]? = some ((look g u)[n]).2 := by
                unfold outs
                rw [List.getElem?_map, List.getElem?_eq_getElem hnl]
                rfl
              refine ⟨mu g (putK sk u (V.bl true)) ((((look g u)[n]).2, 0) :: (u, n + 1) :: fs), by unfold mu; omega, _, _, putK sk u (V.bl true), os, O, .ref t2 :: .ref t1 :: vs, (((look g u)[n]).2, 0) :: (u, n + 1) :: fs, rfl, ?_, ?_,
                ⟨same_mut (same8.trans s9) nst, S5.nsd, S5.nod, by rw [upd_ne nss2.symm]; exact s9 _ _ hs8, by rw [upd_ne nso2.symm]; exact s9 _ _ ho8, paired_imp po6 fun _ _ r => r.mono t6A, S5.di.push hv memS e3 (ok.clo u hun _ (List.getElem_mem hnl)), ?_, ?_⟩, done6, ?_, rfl⟩
              · rw [upd_same]
                simp
              · refine .cons ⟨t2, ka, rfl, tA _ _ f9, tA _ _ (s9 _ _ (same8 _ _ hka))⟩ (.cons ⟨t1, a, rfl, tA _ _ (s9 _ _ f8), t6A _ _ ha6⟩ (paired_imp pf6 fun _ _ r => r.mono t6A))
              · unfold mu at b1 ⊢
                omega
              · unfold mu at b2 ⊢
                omega
              · rcases root3 with z | ⟨k', z⟩
                · exact .inl ((memS ku).mpr (.inl z))
                · rcases List.mem_cons.mp z with e | e
                  · cases e
                    exact .inl ((memS _).mpr (.inr rfl))
                  · exact .inr ⟨k', List.mem_cons_of_mem _ (List.mem_cons_of_mem _ e)⟩
    · -- the end
      rintro σ H' ⟨r4, r5, r6, r7, sk, os, O, rfl, S, done⟩
      have lens : kvs.length = g.length := paired_len GA.ents
      refine ⟨S.same _ _ hBd, ?_⟩
      refine ⟨_, rfl, ?_⟩
      have all : ∀ u ∈ gkeys g, sn sk u = true := fun u hu => by
        obtain ⟨j, hj⟩ := List.mem_iff_getElem?.mp hu
        refine done j u ?_ hj
        have := (List.getElem?_eq_some_iff.mp hj).1
        unfold gkeys at this
        rw [List.length_map] at this
        omega
      refine k od (upd H' d (.dT kvs)) os O (same_unlock GA.dict (by rw [← eB]; exact S.same)) hod0 (by rw [upd_ne ndo.symm]; exact S.ho) (paired_imp S.po fun _ _ r => r.mono ((TSame.refl H').mut (S.same _ _ hBd) fun _ e => nomatch e)) S.di.fin (fun u hu => S.di.all (all u hu)) (fun u hu => S.di.sn u (S.di.sub u hu)) ?_
      have b := S.b1
      have := ok.len
      omega
end
end K42
set_option Elab.async false
set_option linter.all false
set_option maxRecDepth 100000
set_option maxHeartbeats 4000000
namespace K42
open PySem PySem.Spec PyProof.Rows L2

def PartOk (g : Gph) (ps : List (Nd × V)) : Prop := (∀ u ∈ gkeys g, ∃ n : Int, valV ps u = some (.int n)) ∧ ∀ u ∈ gkeys g, ∀ v ∈ gkeys g, (valV ps u = valV ps v ↔ Sim (outs g) u v)
def asg (pt : Nd → Option Int) (u : Nd) : Bool := (pt u).isSome
def PV (ps : List (Nd × V)) (pt : Nd → Option Int) : Prop := ∀ u, valV ps u = (pt u).map V.int
def sp_strong_parts : Sp := fun vs H Q _ => ∃ (d : Addr) (kvs : List (Nd × V)) (g : Gph), vs = [.ref d] ∧ GphAt H d kvs g ∧ GOk' g ∧
  ∀ (p : Addr) (H' : Hp) (ps : List (Nd × V)), Same H H' → H p = none → H' p = some (.dT ps) → PartOk g ps → Q (.ref p) H'
structure BkAt (B : Hp) (bd : Addr) (ks : List Nd) (bk : List (Nd × V)) (pr : Nd → List Nd) (H : Hp) : Prop where
  same : Same B H
  nb : B bd = none
  hb : H bd = some (.dT bk)
  at_ : ∀ x ∈ ks, ∃ l vs, valV bk x = some (.ref l) ∧ H l = some (.lst vs) ∧ B l = none ∧ Paired (KeyV H) vs (pr x)
  inj : ∀ x ∈ ks, ∀ y ∈ ks, ∀ l, valV bk x = some (.ref l) → valV bk y = some (.ref l) → x = y
theorem BkAt.unlock {H H' : Hp} {d bd : Addr} {ob : Obj} {kvs bk : List (Nd × V)} {ks : List Nd} {pr : Nd → List Nd} (h : H d = some (.dT kvs)) (S : BkAt (upd H d (.frz ob (.dT kvs))) bd ks bk pr H') : BkAt H bd ks bk pr (upd H' d (.dT kvs)) := by
  have fr : ∀ a, (upd H d (.frz ob (.dT kvs))) a = none → a ≠ d ∧ H a = none := fun a e => by
    have n : a ≠ d := fun q => by
      rw [q, upd_same] at e
      cases e
    rw [upd_ne n] at e
    exact ⟨n, e⟩
  have hd' : H' d = some (.frz ob (.dT kvs)) := S.same _ _ upd_same
  refine ⟨same_unlock h S.same, (fr _ S.nb).2, by rw [upd_ne (fr _ S.nb).1]; exact S.hb, fun x hx => ?_, S.inj⟩
  obtain ⟨l, vs, e1, e2, e3, e4⟩ := S.at_ x hx
  exact ⟨l, vs, e1, by rw [upd_ne (fr _ e3).1]; exact e2, (fr _ e3).2, paired_imp e4 fun _ _ r => r.mono ((TSame.refl H').mut hd' fun _ e => nomatch e)⟩
theorem BkAt.lock {H H' : Hp} {d bd : Addr} {ob : Obj} {kvs bk : List (Nd × V)} {ks : List Nd} {pr : Nd → List Nd} (h : H d = some (.dT kvs)) (S : BkAt H bd ks bk pr H') : BkAt (upd H d (.frz ob (.dT kvs))) bd ks bk pr (upd H' d (.frz ob (.dT kvs))) := by
  have nd : ∀ a, H a = none → a ≠ d := fun a e => (ne_of_none h e).symm
  have hd' : H' d = some (.dT kvs) := S.same _ _ h
  refine ⟨fun a o e => ?_, by rw [upd_ne (nd _ S.nb)]; exact S.nb, by rw [upd_ne (nd _ S.nb)]; exact S.hb, fun x hx => ?_, S.inj⟩
  · by_cases q : a = d
    · subst q
      rw [upd_same] at e ⊢
      exact e
    · rw [upd_ne q] at e ⊢
      exact S.same a o e
  · obtain ⟨l, vs, e1, e2, e3, e4⟩ := S.at_ x hx
    exact ⟨l, vs, e1, by rw [upd_ne (nd _ e3)]; exact e2, by rw [upd_ne (nd _ e3)]; exact e3, paired_imp e4 fun _ _ r => r.mono ((TSame.refl H').mut hd' fun _ e => nomatch e)⟩
structure PrI (g : Gph) (pr : Nd → List Nd) (i jj : Nat) : Prop where
  mem : ∀ x y, y ∈ pr x ↔ (∃ j, j < i ∧ (gkeys g)[j]? = some y ∧ x ∈ outs g y) ∨ ((gkeys g)[i]? = some y ∧ x ∈ (outs g y).take jj)
  len : ∀ x, (pr x).length ≤ 10 * i + jj
theorem PrI.start (g : Gph) : PrI g (fun _ => []) 0 0 := ⟨fun x y => by simp, fun x => Nat.zero_le _⟩
theorem PrI.next {g : Gph} {pr : Nd → List Nd} {i jj : Nat} {u t : Nd} (I : PrI g pr i jj) (hu : (gkeys g)[i]? = some u) (ht : (outs g u)[jj]? = some t) : PrI g (fun x => if x = t then pr x ++ [u] else pr x) i (jj + 1) := by
  refine ⟨fun x y => ?_, fun x => ?_⟩
  · have e : (outs g u).take (jj + 1) = (outs g u).take jj ++ [t] := by rw [List.take_add_one, ht]; rfl
    have m := I.mem x y
    have hy : (gkeys g)[i]? = some y → y = u := fun h => by rw [hu] at h; cases h; rfl
    by_cases hx : x = t
    · rw [if_pos hx, List.mem_append, m]
      constructor
      · intro h
        rcases h with (h | ⟨h1, h2⟩) | h
        · exact .inl h
        · refine .inr ⟨h1, ?_⟩
          rw [hy h1, e]
          exact List.mem_append_left _ (hy h1 ▸ h2)
        · have e2 : y = u := by simpa using h
          refine .inr ⟨by rw [e2]; exact hu, ?_⟩
          rw [e2, e, hx]
          simp
      · intro h
        rcases h with h | ⟨h1, h2⟩
        · exact .inl (.inl h)
        · exact .inr (by simp [hy h1])
    · rw [if_neg hx, m]
      constructor
      · intro h
        rcases h with h | ⟨h1, h2⟩
        · exact .inl h
        · refine .inr ⟨h1, ?_⟩
          rw [hy h1, e]
          exact List.mem_append_left _ (hy h1 ▸ h2)
      · intro h
        rcases h with h | ⟨h1, h2⟩
        · exact .inl h
        · refine .inr ⟨h1, ?_⟩
          rw [hy h1, e] at h2
          rw [hy h1]
          rcases List.mem_append.mp h2 with a | a
          · exact a
          · exact absurd (by simpa using a) hx
  · have l := I.len x
    by_cases hx : x = t
    · simp only [if_pos hx, List.length_append, List.length_singleton]
      omega
    · simp only [if_neg hx]
      omega
theorem PrI.turn {g : Gph} {pr : Nd → List Nd} {i jj : Nat} {u : Nd} (I : PrI g pr i jj) (hu : (gkeys g)[i]? = some u) (hj : jj = (outs g u).length) (h10 : jj ≤ 10) : PrI g pr (i + 1) 0 := by
  refine ⟨fun x y => ?_, fun x => ?_⟩
  · have m := I.mem x y
    rw [m]
    constructor
    · intro h
      rcases h with ⟨j, h1, h2, h3⟩ | ⟨h1, h2⟩
      · exact .inl ⟨j, by omega, h2, h3⟩
      · exact .inl ⟨i, by omega, h1, List.mem_of_mem_take h2⟩
    · intro h
      rcases h with ⟨j, h1, h2, h3⟩ | ⟨h1, h2⟩
      · by_cases e : j = i
        · subst e
          rw [hu] at h2
          cases h2
          refine .inr ⟨hu, ?_⟩
          rw [hj, List.take_length]
          exact h3
        · exact .inl ⟨j, by omega, h2, h3⟩
      · simp at h2
  · have := I.len x
    omega
theorem PrI.fin {g : Gph} {pr : Nd → List Nd} {n : Nat} (I : PrI g pr n 0) (hn : (gkeys g).length ≤ n) (x y : Nd) : y ∈ pr x ↔ y ∈ gkeys g ∧ x ∈ outs g y := by
  rw [I.mem x y]
  constructor
  · intro h
    rcases h with ⟨j, h1, h2, h3⟩ | ⟨h1, h2⟩
    · exact ⟨List.mem_of_getElem? h2, h3⟩
    · simp at h2
  · intro h
    obtain ⟨j, hj⟩ := List.mem_iff_getElem?.mp h.1
    exact .inl ⟨j, by have := (List.getElem?_eq_some_iff.mp hj).1; omega, hj, h.2⟩
section
variable {P : Program} {w : World} {K : PySem.W.Frag} {mg : Str → Option Value} {base : Heap}
theorem sc_strong_parts : FnScope ["edges", "backward", "node", "tag", "target", "part", "count", "root", "line"] ["edges"] (defScope s_g_strong_parts) := ⟨rfl, rfl, rfl, by decide +kernel, rfl, by decide +kernel, by decide +kernel⟩
theorem ok_strong_parts (T : Tp K mg) (G_finish_order : GOk P w K mg base "finish_order" 1 ["edges"] sp_finish_order) : GOk P w K mg base "strong_parts" 2 ["edges"] sp_strong_parts := by
  refine gok_of (st := s_g_strong_parts) T.fd_g_strong_parts T.g_strong_parts sc_strong_parts (fun _ _ _ _ _ _ us hl => match us, hl with | [_], _ => rfl) (fun vs H Q E h => ?_) (fun cdv A outer s H vs Q E hr h => ?_)
  · obtain ⟨d, kvs, g, rfl, _⟩ := h
    rfl
  · obtain ⟨d, kvs, g, rfl, GA, ok, k⟩ := h
    have hu := hu_of hr
    refine ⟨_, (pss_cons (ps_lock (ps_setDcT (i := 1) (own := [("node", 2)]) hu (by rfl) sc_strong_parts.nd rfl rfl (by rfl) (pi_keys (pv 0)) (blkOk_by (own := [("node", 2)]) (N := ["edges", "backward", "node", "tag", "target", "part", "count", "root", "line"]) (sc := defScope s_g_strong_parts) (by decide +kernel)) (fun _ _ _ _ _ => (pg_name (i := 2) sc_strong_parts.nd rfl (by first | exact Or.inl rfl | exact Or.inr rfl))) (fun _ _ _ _ _ => (pv 2)) (fun _ _ _ _ _ => (pe_lst pa_nil))))
      (pss_cons (ps_lock (ps_for PassesOwn.never rfl (pi_keys (pv 0)) (pg_name (i := 2) sc_strong_parts.nd rfl (by first | exact Or.inl rfl | exact Or.inr rfl)) (pss_one (ps_for PassesOwn.never rfl (pi_list (pe_dget hu (pv 0) (pv 2) (fun _ _ => rfl))) (pg_tupK K (n := 2) (by rfl) (pgs_cons (pg_name (i := 3) sc_strong_parts.nd rfl (by first | exact Or.inl rfl | exact Or.inr rfl)) (pgs_cons (pg_name (i := 4) sc_strong_parts.nd rfl (by first | exact Or.inl rfl | exact Or.inr rfl)) pgs_nil))) (pss_one (ps_expr (pe_bm PySem.F.plainAttrs_list PySem.F.slot_list_append PySem.F.type_list_append mt_append (pe_dget hu (pv 1) (pv 4) (fun _ _ => rfl)) (pa_cons (pv 2) pa_nil))))))))
      (pss_cons (ps_par (i := 5) (j := 6) (by rfl) sc_strong_parts.nd rfl rfl (by decide) rfl rfl (pa_cons pe_dnewT (pa_cons pe_int pa_nil)) (by rfl))
      (pss_cons (ps_for PassesOwn.never rfl (pi_list (pe_revL (pe_g G_finish_order (hr.mono (by decide)) (pa_cons (pv 0) pa_nil)))) (pg_name (i := 7) sc_strong_parts.nd rfl (by first | exact Or.inl rfl | exact Or.inr rfl)) (pss_cons (ps_set (i := 8) sc_strong_parts.nd rfl (by first | exact Or.inl rfl | exact Or.inr rfl) (pe_lst (pa_cons (pv 7) pa_nil)))
      (pss_cons (ps_while PassesOwn.never (pt_cmpR (op_neNil hr.units0) (pv 8) (pe_lst pa_nil) (nomark _)) (pss_cons (ps_set (i := 2) sc_strong_parts.nd rfl (by first | exact Or.inl rfl | exact Or.inr rfl) (pe_bm0 PySem.F.plainAttrs_list PySem.F.slot_list_pop PySem.F.type_list_pop mt_pop (pv 8)))
      (pss_one (ps_if (pt_cmp (pc_dnotin hu (pv 2) (pv 5))) (pss_cons (ps_dput hu (pv 5) (pv 2) (pv 6) rfl)
      (pss_one (ps_expr (pe_bm PySem.F.plainAttrs_list PySem.F.slot_list_extend PySem.F.type_list_extend mt_extend (pv 8) (pa_cons (pe_dget hu (pv 1) (pv 2) (fun _ _ => rfl)) pa_nil))))) pss_nil))))
      (pss_one (ps_aug (i := 6) sc_strong_parts.nd rfl (by first | exact Or.inl rfl | exact Or.inr rfl) (pe_callTy call_int1 (by rfl) T.b_int (by decide +kernel) (pa_cons (pe_cmpR op_eq (pe_dget hu (pv 5) (pv 7) (fun _ _ => rfl)) (pv 6) (nomark _)) pa_nil)) ip_add)))))
      (pss_one (ps_ret (pv 5))))))), ?_⟩
    have lens : kvs.length = g.length := paired_len GA.ents
    have keyAt : ∀ {i : Nat} {ku : Nd} {vu : V}, kvs[i]? = some (ku, vu) → (gkeys g)[i]? = some ku := fun {i ku vu} hix => by
      rw [← ents_keys GA.ents, List.getElem?_map, hix]
      rfl
    have klen : (gkeys g).length = g.length := by unfold gkeys; rw [List.length_map]
    have lsz : ∀ {x : Nat}, x ≤ 100000 → x < sizeLine := fun {x} hx => by
      rw [sizeLine_eq]
      omega
    refine ⟨d, _, GA.dict, trivial, fun ob => ?_⟩
    refine ⟨_, rfl, d, ob, rfl, .inr ⟨kvs, upd_same, fun bd hbd => ?_⟩⟩
    have nbd : bd ≠ d := fun q => by
      rw [q, upd_same] at hbd
      cases hbd
    refine dcT_it walk_keysT (fun i H' => ∃ bk, BkAt (upd H d (.frz ob (.dT kvs))) bd ((gkeys g).take i) bk (fun _ => []) H' ∧ bk.length ≤ i) ?_ ?_ ?_ ?_
    · refine ⟨[], ⟨same_new hbd, hbd, upd_same, fun x hx => by simp at hx, fun x hx => by simp at hx⟩, Nat.le_refl _⟩
    · rintro i H' _ ⟨bk, S, _⟩
      exact S.same _ _ upd_same
    · rintro i x H1 H2 hi ⟨bk, S, hl⟩ ⟨rfl, ku, vu, qa, hix, rfl, hq⟩
      have kin := keyAt hix
      refine ⟨rfl, _, rfl, Nat.zero_le _, fun p hp => ?_⟩
      have nbp : bd ≠ p := ne_of_none S.hb hp
      have sp := same_new (o := .lst []) hp
      refine ⟨bk, qa, ku, rfl, sp _ _ hq, sp _ _ S.hb, lsz (by have := ok.len; omega), putK bk ku (.ref p), ⟨same_mut (S.same.trans sp) S.nb, S.nb, upd_same, fun y hy => ?_, fun y hy z hz l e1 e2 => ?_⟩, ?_⟩
      · rw [valV_put]
        by_cases e : y = ku
        · rw [if_pos e]
          exact ⟨p, [], rfl, by rw [upd_ne nbp.symm, upd_same], S.same.free hp, .nil⟩
        · rw [if_neg e]
          have hy' : y ∈ (gkeys g).take i := by
            rw [List.take_add_one, kin] at hy
            rcases List.mem_append.mp hy with a | a
            · exact a
            · exact absurd (by simpa using a) e
          obtain ⟨l, vs, e1, e2, e3, e4⟩ := S.at_ y hy'
          refine ⟨l, vs, e1, ?_, e3, ?_⟩
          · rw [upd_ne (ne_of e2 S.hb (fun e => nomatch e)), upd_ne (ne_of_none e2 hp)]
            exact e2
          · exact paired_imp e4 fun _ _ r => r.mono ((TSame.of sp).trans ((TSame.refl _).mut (sp _ _ S.hb) fun _ e => nomatch e))
      · rw [valV_put] at e1 e2
        have old : ∀ w, w ∈ (gkeys g).take (i + 1) → w ≠ ku → w ∈ (gkeys g).take i := fun w hw n => by
          rw [List.take_add_one, kin] at hw
          rcases List.mem_append.mp hw with a | a
          · exact a
          · exact absurd (by simpa using a) n
        have notP : ∀ w, w ∈ (gkeys g).take i → valV bk w = some (.ref p) → False := fun w hw e => by
          obtain ⟨l', vs, e1, e2, _⟩ := S.at_ w hw
          rw [e1] at e
          cases e
          rw [hp] at e2
          cases e2
        by_cases ey : y = ku
        · by_cases ez : z = ku
          · rw [ey, ez]
          · rw [if_pos ey] at e1
            rw [if_neg ez] at e2
            cases e1
            exact (notP z (old z hz ez) e2).elim
        · rw [if_neg ey] at e1
          by_cases ez : z = ku
          · rw [if_pos ez] at e2
            cases e2
            exact (notP y (old y hy ey) e1).elim
          · rw [if_neg ez] at e2
            exact S.inj y (old y hy ey) z (old z hz ez) l e1 e2
      · have := length_putK bk ku (V.ref p)
        omega
    · rintro H1 ⟨bk, S, hl⟩
      refine ⟨S.same _ _ upd_same, ?_⟩
      have S1 := S.unlock GA.dict
      rw [List.take_of_length_le (by rw [klen, ← lens]; exact Nat.le_refl _)] at S1
      generalize upd H1 d (.dT kvs) = H2 at S1 ⊢
      clear S
      have hd2 : H2 d = some (.dT kvs) := S1.same _ _ GA.dict
      refine ⟨d, _, hd2, trivial, fun ob2 => ?_⟩
      obtain ⟨B, eB⟩ : ∃ B, B = upd H d (.frz ob2 (.dT kvs)) := ⟨_, rfl⟩
      have hBd : B d = some (.frz ob2 (.dT kvs)) := by rw [eB]; exact upd_same
      have tsB : TSame H B := by
        rw [eB]
        exact tsame_lock GA.dict (fun _ e => nomatch e)
      have entB : ∀ u ∈ gkeys g, ∃ l ws, valV kvs u = some (.ref l) ∧ B l = some (.lst ws) ∧ Paired (EdgeV B) ws (look g u) := fun u hu => by
        obtain ⟨l, ws, e1, e2, e3⟩ := ents_val GA.ents hu
        refine ⟨l, ws, e1, ?_, paired_imp e3 fun _ _ r => r.mono tsB⟩
        rw [eB, upd_ne (ne_of e2 GA.dict (fun e => nomatch e))]
        exact e2
      refine ⟨_, rfl, d, ob2, rfl, .inr ⟨kvs, upd_same, ?_⟩⟩
      have S2 := S1.lock (ob := ob2) GA.dict
      rw [← eB] at S2
      refine for_it walk_keysT (fun i σ H' => ∃ r2 r3 r4 pr, σ = [some (V.ref d), some (V.ref bd), r2, r3, r4, none, none, none, none] ∧ BkAt B bd (gkeys g) bk pr H' ∧ PrI g pr i 0) ⟨none, none, none, _, rfl, S2, PrI.start g⟩ ?_ ?_ ?_
      · rintro i σ H' _ ⟨_, _, _, _, _, S, _⟩
        exact S.same _ _ hBd
      · rintro i x σ H3 H4 hi ⟨r2, r3, r4, pr, rfl, S3, I3⟩ ⟨rfl, ku, vu, qa, hix, rfl, hq⟩
        have kin := keyAt hix
        obtain ⟨l, ws, hl1, hl2, hl3⟩ := entB ku (List.mem_of_getElem? kin)
        have wl : ws.length = (outs g ku).length := by
          unfold outs
          rw [List.length_map]
          exact paired_len hl3
        have w10 : ws.length ≤ 10 := by
          have := ok.deg ku
          rw [paired_len hl3]
          exact this
        refine ⟨_, rfl, _, rfl, d, _, rfl, .inr ⟨kvs, ku, qa, .inr ⟨ob2, S3.same _ _ hBd⟩, rfl, hq, hl1.symm⟩, l, rfl, ⟨ws, SqL.of (S3.same _ _ hl2)⟩, ?_⟩
        refine for_it (walk_list (xs := ws)) (fun jj σ H' => ∃ r3 r4 pr, σ = [some (V.ref d), some (V.ref bd), some (V.ref qa), r3, r4, none, none, none, none] ∧ BkAt B bd (gkeys g) bk pr H' ∧ PrI g pr i jj ∧ H' qa = some (.tup (ku.map kV))) ⟨r3, r4, pr, rfl, S3, I3, hq⟩ ?_ ?_ ?_
        · rintro jj σ H' _ ⟨_, _, _, _, S, _⟩
          exact SqL.of (S.same _ _ hl2)
        · rintro jj x σ H5 H6 hj ⟨r3', r4', pr', rfl, S5, I5, hq5⟩ ⟨rfl, hxj⟩
          obtain ⟨e, he1, pe, ta, ka, rfl, hpe, hta, hka⟩ := paired_get hl3 hxj
          have tS := TSame.of S5.same
          refine ⟨pe, _, rfl, SqT.of (tS _ _ hpe), rfl, _, _, rfl, _, _, rfl, rfl, ?_⟩
          have etl : (outs g ku)[jj]? = some e.2 := by
            unfold outs
            rw [List.getElem?_map, he1]
            rfl
          have eink : e.2 ∈ gkeys g := ok.clo ku (List.mem_of_getElem? kin) e (List.mem_of_getElem? he1)
          obtain ⟨lx, vx, x1, x2, x3, x4⟩ := S5.at_ e.2 eink
          have hka5 := tS _ _ hka
          have lenx : vx.length ≤ 10000 := by
            have h1 := I5.len e.2
            have h2 := paired_len x4
            have h3 := ok.len
            have h4 : i < kvs.length := hi
            omega
          refine ⟨_, rfl, _, rfl, bd, _, rfl, .inr ⟨bk, e.2, ka, .inl S5.hb, rfl, hka5, x1.symm⟩, .inl ⟨rfl, _, SqL.of x2⟩, _, rfl, lx, _, _, rfl, rfl, x2, lsz (by omega), ?_⟩
          have t6 : TSame H6 (upd H6 lx (.lst (vx ++ [V.ref qa]))) := (TSame.refl _).mut x2 fun _ e => nomatch e
          refine ⟨_, _, fun x => if x = e.2 then pr' x ++ [ku] else pr' x, rfl, ⟨same_mut S5.same x3, S5.nb, ?_, fun y hy => ?_, S5.inj⟩, I5.next kin etl, t6 _ _ hq5⟩
          · rw [upd_ne (ne_of S5.hb x2 (fun e => nomatch e))]
            exact S5.hb
          · obtain ⟨ly, vy, y1, y2, y3, y4⟩ := S5.at_ y hy
            by_cases hye : y = e.2
            · subst hye
              rw [x1] at y1
              cases y1
              refine ⟨lx, vx ++ [V.ref qa], x1, upd_same, x3, ?_⟩
              rw [if_pos rfl]
              exact paired_app (paired_imp x4 fun _ _ r => r.mono t6) (.cons ⟨qa, rfl, t6 _ _ hq5⟩ .nil)
            · have nly : ly ≠ lx := fun q => hye (S5.inj y hy e.2 eink lx (q ▸ y1) x1)
              refine ⟨ly, vy, y1, by rw [upd_ne nly]; exact y2, y3, ?_⟩
              rw [if_neg hye]
              exact paired_imp y4 fun _ _ r => r.mono t6
        · rintro σ H' ⟨r3', r4', pr', rfl, S5, I5, hq5⟩
          exact ⟨_, _, _, pr', rfl, S5, I5.turn kin wl w10⟩
      · rintro σ H3 ⟨r2, r3, r4, pr, rfl, S3, I3⟩
        refine ⟨S3.same _ _ hBd, ?_⟩
        rw [eB] at S3
        have S4 := S3.unlock GA.dict
        generalize upd H3 d (.dT kvs) = H4 at S4 ⊢
        clear S3
        have prm := I3.fin (by rw [klen, ← lens]; exact Nat.le_refl _)
        have prl : ∀ x, (pr x).length ≤ 610 := fun x => by
          have h1 := I3.len x
          have h2 := ok.len
          omega
        have S4a := S4.at_
        have S4b := S4.hb
        have s4 := S4.same
        intro pd hpd
        refine ⟨_, _, rfl, ?_⟩
        have npd : H pd = none := s4.free hpd
        have s5 := same_new (o := .dT []) hpd
        have hp5 : (upd H4 pd (.dT [])) pd = some (.dT []) := upd_same
        generalize upd H4 pd (.dT []) = H5 at s5 hp5 ⊢
        refine ⟨_, rfl, d, kvs, g, rfl, (GA.mono s4).mono s5, ok, fun ol H6 os O s6 nol hol po fin all sub lno => ⟨ol, os, rfl, SqL.of hol, fun rl hrl => ⟨rl, rfl, ⟨_, SqL.of upd_same⟩, ?_⟩⟩⟩
        have s7 := same_new (o := .lst os.reverse) hrl
        have h7 : (upd H6 rl (.lst os.reverse)) rl = some (.lst os.reverse) := upd_same
        generalize upd H6 rl (.lst os.reverse) = H7 at s7 h7 ⊢
        have s47 : Same H4 H7 := (s5.trans s6).trans s7
        have hp7 : H7 pd = some (.dT []) := s7 _ _ (s6 _ _ hp5)
        have nrp : rl ≠ pd := ne_of h7 hp7 (fun e => nomatch e)
        have po7 := paired_rev (paired_imp po fun _ _ r => r.mono (.of s7))
        have wle : ∀ (A : Nd → Bool), wsum A (fun x => 1 + (pr x).length) (gkeys g) ≤ 611 * 60 := fun A => by
          have h1 := wsum_le (A := A) (f := fun x => 1 + (pr x).length) (c := 611) (l := gkeys g) fun x _ => by
            have := prl x
            show 1 + (pr x).length ≤ 611
            omega
          have h2 : 611 * (gkeys g).length ≤ 611 * 60 := Nat.mul_le_mul_left _ (by rw [klen]; exact ok.len)
          omega
        have oclo : ∀ u ∈ gkeys g, ∀ v ∈ outs g u, v ∈ gkeys g := fun u hu v hv => by
          obtain ⟨e, he, rfl⟩ := List.mem_map.mp hv
          exact ok.clo u hu e he
        refine for_it (walk_list (xs := os.reverse)) (fun i σ H' => ∃ r2 r3 r4 c r7 r8 ps pt, σ = [some (V.ref d), some (V.ref bd), r2, r3, r4, some (V.ref pd), some (V.int c), r7, r8] ∧ SameX pd H7 H' ∧ H' pd = some (.dT ps) ∧ PV ps pt ∧ KO (outs g) (gkeys g) pt c ∧
          (∀ (j : Nat) u, j < i → O.reverse[j]? = some u → pt u ≠ none) ∧ ps.length + wsum (asg pt) (fun _ => 1) (gkeys g) ≤ 60) ?_ ?_ ?_ ?_
        · refine ⟨_, _, _, 0, none, none, [], fun _ => none, rfl, .refl _ _, hp7, fun u => rfl, ⟨fun u n e => (nomatch e), fun u e => absurd rfl e, fun u v e => absurd rfl e, fun u v e => absurd rfl e⟩, fun j u h => absurd h (Nat.not_lt_zero _), ?_⟩
          have h1 := wsum_le (A := asg fun _ => none) (f := fun _ => 1) (c := 1) (l := gkeys g) fun x _ => Nat.le_refl _
          have h2 := ok.len
          rw [klen] at h1
          simp only [List.length_nil]
          omega
        · rintro i σ H' _ ⟨_, _, _, _, _, _, _, _, _, S, _⟩
          exact SqL.of (S _ _ nrp h7)
        · rintro i x σ H8 H9 hi ⟨r2, r3, r4, c, r7, r8, ps, pt0, rfl, S8, hp8, pv8, ko8, done8, b8⟩ ⟨rfl, hxi⟩
          obtain ⟨ru, hru, ra, rfl, hra⟩ := paired_get po7 hxi
          have rmem : ru ∈ gkeys g := sub ru (by rw [← List.mem_reverse]; exact List.mem_of_getElem? hru)
          have ts8 : TSame H7 H9 := S8.ts hp7 fun _ e => nomatch e
          refine ⟨_, rfl, (by show 1 ≤ sizeLine; decide), fun ln hln => ?_⟩
          have nlp : ln ≠ pd := fun e => by
            rw [e, hp8] at hln
            cases hln
          have nln : H7 ln = none := S8.free nlp hln
          have sA := same_new (o := .lst [V.ref ra]) hln
          refine ⟨fun m σ H' => ∃ r2 ls vs ps pt, σ = [some (V.ref d), some (V.ref bd), r2, r3, r4, some (V.ref pd), some (V.int c), some (V.ref ra), some (V.ref ln)] ∧ SameX pd H7 H' ∧ H' ln = some (.lst vs) ∧ Paired (KeyV H') vs ls ∧ H' pd = some (.dT ps) ∧ PV ps pt ∧
            KI (outs g) (gkeys g) pt0 c ru pt ls ∧ ps.length + wsum (asg pt) (fun _ => 1) (gkeys g) ≤ 60 ∧ m = wsum (asg pt) (fun x => 1 + (pr x).length) (gkeys g) + ls.length ∧ m ≤ 40000, ?_, ?_⟩
          · refine ⟨_, r2, [ru], [V.ref ra], ps, pt0, rfl, S8.then sA, upd_same, .cons ⟨ra, rfl, sA _ _ (ts8 _ _ hra)⟩ .nil, sA _ _ hp8, pv8, KI.start rmem, b8, rfl, ?_⟩
            have := wle (asg pt0)
            simp only [List.length_singleton]
            omega
          · rintro m σ H' ⟨r2, ls, vs, ps, pt, rfl, S', hln', pl', hp', pv', ki', b', em, m4⟩
            have lenV := paired_len pl'
            refine ⟨_, rfl, Nat.zero_le _, fun e0 he0 => ⟨ln, e0, _, rfl, rfl, SqL.of (by rw [upd_ne (ne_of_none hln' he0)]; exact hln'), SqL.of upd_same, _, rfl, ?_⟩⟩
            have se := same_new (o := .lst []) he0
            generalize upd H' e0 (.lst []) = Hb at se ⊢
            have Sb := S'.then se
            have hlnb := se _ _ hln'
            have plb := paired_imp pl' fun _ _ r => r.mono (.of se)
            have hpb := se _ _ hp'
            clear S' hln' pl' hp' se he0
            rcases List.eq_nil_or_concat ls with rfl | ⟨ls, x, rfl⟩
            · cases plb
              refine iteF ?_
              obtain ⟨O1, O2, eO, hO2⟩ : ∃ O1 O2, O = O1 ++ ru :: O2 ∧ ∀ u ∈ O2, pt0 u ≠ none := by
                have hlt := (List.getElem?_eq_some_iff.mp hru).1
                have e1 : O.reverse = O.reverse.take i ++ ru :: O.reverse.drop (i + 1) := by
                  have h1 : O.reverse.drop i = ru :: O.reverse.drop (i + 1) := by
                    rw [List.drop_eq_getElem_cons hlt]
                    rw [(List.getElem?_eq_some_iff.mp hru).2]
                  rw [← h1, List.take_append_drop]
                refine ⟨(O.reverse.drop (i + 1)).reverse, (O.reverse.take i).reverse, ?_, fun u hu => ?_⟩
                · have e2 := congrArg List.reverse e1
                  rw [List.reverse_reverse] at e2
                  exact e2.trans (by rw [List.reverse_append, List.reverse_cons]; simp)
                · rw [List.mem_reverse] at hu
                  obtain ⟨j, hj⟩ := List.mem_iff_getElem?.mp hu
                  have hjl := (List.getElem?_eq_some_iff.mp hj).1
                  have hji : j < i := by
                    rw [List.length_take] at hjl
                    omega
                  rw [List.getElem?_take_of_lt hji] at hj
                  exact done8 j u hji hj
              obtain ⟨k1, k2, k3⟩ := ki'.done ko8 oclo (by rw [← eO]; exact fin) hO2 (fun u hu => by rw [← eO]; exact all u hu) rmem
              obtain ⟨n, hn⟩ : ∃ n, pt ru = some n := by
                cases e : pt ru with
                | none => exact absurd e k2
                | some n => exact ⟨n, rfl⟩
              have tsb : TSame H7 Hb := Sb.ts hp7 fun _ e => nomatch e
              have gp : DGet Hb pd (.ref ra) (some (.int n)) := .inr ⟨ps, ru, ra, .inl hpb, rfl, tsb _ _ hra, by rw [pv' ru, hn]; rfl⟩
              refine ⟨_, rfl, _, rfl, _, rfl, pd, _, rfl, gp, _, rfl, rfl, .inr ⟨_, rfl, _, _, rfl, rfl, ?_⟩⟩
              refine ⟨_, _, _, _, _, _, ps, pt, rfl, Sb, hpb, pv', ?_, fun j u hj hu => ?_, b'⟩
              · have ec : c + (if decide (V.int n = V.int c) = true then (1 : Int) else 0) = if pt ru = some c then c + 1 else c := by
                  rw [hn]
                  by_cases q : n = c
                  · rw [q]
                    simp
                  · have q1 : ¬ decide (V.int n = V.int c) = true := fun z => q (V.int.inj (of_decide_eq_true z))
                    have q2 : ¬ some n = some c := fun z => q (Option.some.inj z)
                    rw [if_neg q1, if_neg q2]
                    omega
                rw [← ec] at k1
                exact k1
              · by_cases hji : j = i
                · subst hji
                  rw [hru] at hu
                  cases hu
                  exact k2
                · exact k3 u (done8 j u (by omega) hu)
            · simp only [List.concat_eq_append] at plb em ki' lenV
              obtain ⟨vs, v, rfl, plb0, hv⟩ := paired_snoc plb
              have ne : (!(vs ++ [v]).isEmpty) = true := by simp
              rw [ne]
              refine iteT ⟨_, fun _ _ h => h, ?_⟩
              obtain ⟨xa, rfl, hxa⟩ := hv
              have last : (vs ++ [V.ref xa])[(vs ++ [V.ref xa]).length - 1]? = some (V.ref xa) := by simp
              have dl : (vs ++ [V.ref xa]).dropLast = vs := by simp
              refine ⟨_, rfl, .inl ⟨rfl, _, SqL.of hlnb⟩, ln, _, _, rfl, rfl, hlnb, last, ?_⟩
              rw [dl]
              have tc : TSame Hb (upd Hb ln (.lst vs)) := (TSame.refl _).mut hlnb fun _ e => nomatch e
              have Sc : SameX pd H7 (upd Hb ln (.lst vs)) := Sb.mut nln
              have hlc : (upd Hb ln (.lst vs)) ln = some (.lst vs) := upd_same
              have hpc : (upd Hb ln (.lst vs)) pd = some (.dT ps) := by rw [upd_ne nlp.symm]; exact hpb
              have plc := paired_imp plb0 fun _ _ r => r.mono tc
              have hxc := tc _ _ hxa
              generalize upd Hb ln (.lst vs) = Hc at tc Sc hlc hpc plc hxc ⊢
              have lenL : vs.length = ls.length := paired_len plc
              rw [List.length_append, List.length_singleton] at em
              refine ⟨_, rfl, _, rfl, pd, _, rfl, DGet.t hpc hxc, _, rfl, ?_⟩
              have xmem := (ki'.line x (by simp)).2
              cases ex : pt x with
              | some n =>
                have e1 : (!(valV ps x).isSome) = false := by rw [pv' x, ex]; rfl
                rw [e1]
                refine iteF ?_
                exact ⟨_, by rw [em]; exact Nat.lt_succ_self _, _, ls, vs, ps, pt, rfl, Sc, hlc, plc, hpc, pv', ki'.skip (by rw [ex]; simp), b', rfl, by omega⟩
              | none =>
                have e1 : (!(valV ps x).isSome) = true := by rw [pv' x, ex]; rfl
                rw [e1]
                refine iteT ?_
                have wl := wle (asg pt)
                obtain ⟨bx, bvs, x1, x2, x3, x4⟩ := S4a x xmem
                have nbx : bx ≠ pd := (ne_of_none x2 hpd)
                have lenB := paired_len x4
                have prx := prl x
                refine ⟨_, rfl, _, rfl, _, rfl, pd, _, rfl, DPut.t hpc hxc (lsz (by omega)), ?_⟩
                have td : TSame Hc (upd Hc pd (.dT (putK ps x (.int c)))) := (TSame.refl _).mut hpc fun _ e => nomatch e
                have Sd : SameX pd H7 (upd Hc pd (.dT (putK ps x (.int c)))) := Sc.put
                have hpd' : (upd Hc pd (.dT (putK ps x (.int c)))) pd = some (.dT (putK ps x (.int c))) := upd_same
                have hld : (upd Hc pd (.dT (putK ps x (.int c)))) ln = some (.lst vs) := by rw [upd_ne nlp]; exact hlc
                have pld := paired_imp plc fun _ _ r => r.mono td
                have hxd := td _ _ hxc
                generalize upd Hc pd (.dT (putK ps x (.int c))) = Hd at td Sd hpd' hld pld hxd ⊢
                have nbd' : bd ≠ pd := ne_of_none S4b hpd
                have hbd' : Hd bd = some (.dT bk) := Sd _ _ nbd' (s47 _ _ S4b)
                have hbx : Hd bx = some (.lst bvs) := Sd _ _ nbx (s47 _ _ x2)
                refine ⟨_, rfl, .inl ⟨rfl, _, SqL.of hld⟩, _, rfl, _, rfl, bd, _, rfl, .inr ⟨bk, x, xa, .inl hbd', rfl, hxd, x1.symm⟩, ln, bx, vs, bvs, rfl, rfl, hld, hbx, Nat.le_of_lt (lsz (by omega)), ?_⟩
                have te : TSame Hd (upd Hd ln (.lst (vs ++ bvs))) := (TSame.refl _).mut hld fun _ e => nomatch e
                have tsd : TSame H4 Hd := (TSame.of s47).trans (Sd.ts hp7 fun _ e => nomatch e)
                have pt' : ∀ u, asg (fun u => if u = x then some c else pt u) u = true ↔ asg pt u = true ∨ u = x := fun u => by
                  unfold asg
                  by_cases q : u = x
                  · simp [q]
                  · simp [q]
                have mono : ∀ u, asg pt u = true → asg (fun u => if u = x then some c else pt u) u = true := fun u h => (pt' u).mpr (.inl h)
                have nx : ¬ asg pt x = true := by unfold asg; rw [ex]; simp
                have d1 := wsum_drop (fun y => 1 + (pr y).length) mono nx ((pt' x).mpr (.inr rfl)) xmem
                have d2 := wsum_drop (fun _ => 1) mono nx ((pt' x).mpr (.inr rfl)) xmem
                have lput := length_putK ps x (V.int c)
                have d1' : wsum (asg fun u => if u = x then some c else pt u) (fun y => 1 + (pr y).length) (gkeys g) + (1 + (pr x).length) ≤ wsum (asg pt) (fun y => 1 + (pr y).length) (gkeys g) := d1
                refine ⟨_, ?_, _, ls ++ pr x, vs ++ bvs, putK ps x (.int c), fun u => if u = x then some c else pt u, rfl, Sd.mut nln, upd_same, paired_app (paired_imp pld fun _ _ r => r.mono te) (paired_imp x4 fun _ _ r => r.mono (tsd.trans te)), by rw [upd_ne nlp.symm]; exact hpd', fun u => ?_,
                  ki'.add ex (fun u => ?_) (fun y => prm x y), by omega, rfl, ?_⟩
                · rw [em, List.length_append]
                  omega
                · rw [valV_put]
                  by_cases q : u = x
                  · simp [q]
                  · simp only [if_neg q]
                    exact pv' u
                · by_cases q : u = x
                  · exact .inl ⟨q, by simp [q]⟩
                  · exact .inr ⟨q, by simp [q]⟩
                · rw [List.length_append]
                  omega
        · rintro σ H' ⟨r2, r3, r4, c, r7, r8, ps, pt, rfl, S', hp', pv', ko', done', b'⟩
          refine ⟨_, rfl, k pd H' ps (fun a o e => ?_) npd hp' ⟨fun u hu => ?_, fun u hu v hv => ?_⟩⟩
          · exact S' a o (ne_of_none e npd) (s47 _ _ (s4 _ _ e))
          all_goals
            have full : ∀ u ∈ gkeys g, pt u ≠ none := fun u hu => by
              obtain ⟨j, hj⟩ := List.mem_iff_getElem?.mp (List.mem_reverse.mpr (all u hu))
              refine done' j u ?_ hj
              have h1 := (List.getElem?_eq_some_iff.mp hj).1
              have h2 := paired_len po
              rw [List.length_reverse] at h1 ⊢
              omega
          · cases e : pt u with
            | none => exact absurd e (full u hu)
            | some n => exact ⟨n, by rw [pv' u, e]; rfl⟩
          · rw [pv' u, pv' v, ← ko'.eq u v (full u hu) (full v hv)]
            constructor
            · intro h
              cases e1 : pt u with
              | none => exact absurd e1 (full u hu)
              | some n =>
                cases e2 : pt v with
                | none => exact absurd e2 (full v hv)
                | some n2 =>
                  rw [e1, e2] at h
                  have := V.int.inj (Option.some.inj h)
                  rw [this]
            · intro h
              rw [h]
end
end K42
set_option Elab.async false
set_option linter.all false
set_option maxRecDepth 100000
set_option maxHeartbeats 4000000
namespace K42
open PySem PySem.Spec PyProof.Rows L2

def sp_path_between : Sp := fun vs H Q _ => ∃ (d a b : Addr) (kvs : List (Nd × V)) (g : Gph) (u v : Nd), vs = [.ref d, .ref a, .ref b] ∧ GphAt H d kvs g ∧ GOk' g ∧ H a = some (.tup (u.map kV)) ∧ H b = some (.tup (v.map kV)) ∧ u ∈ gkeys g ∧ Reach (outs g) u v ∧
  ∀ (l : Addr) (H' : Hp) (tvs : List V) (ts : List Tag), Same H H' → H l = none → H' l = some (.lst tvs) → Paired (TagV H') tvs ts → Wk g u ts v → ts.length ≤ 60 → Q (.ref l) H'
def CamV (H : Hp) (kv : Nd × V) (c : Nd × Option (Nd × Tag)) : Prop := kv.1 = c.1 ∧ match c.2 with
  | none => kv.2 = .non
  | some (p, t) => ∃ q a b, kv.2 = .ref q ∧ H q = some (.tup [.ref a, .ref b]) ∧ H a = some (.tup (p.map kV)) ∧ H b = some (.tup (tagL t))
theorem CamV.mono {H H' : Hp} {kv : Nd × V} {c : Nd × Option (Nd × Tag)} (s : TSame H H') (h : CamV H kv c) : CamV H' kv c := by
  refine ⟨h.1, ?_⟩
  have h2 := h.2
  cases e : c.2 with
  | none =>
    rw [e] at h2
    exact h2
  | some pt =>
    obtain ⟨p, t⟩ := pt
    rw [e] at h2
    obtain ⟨q, a, b, h3, h4, h5, h6⟩ := h2
    exact ⟨q, a, b, h3, s _ _ h4, s _ _ h5, s _ _ h6⟩
theorem cam_keys {H : Hp} : ∀ {cs : List (Nd × V)} {cm : List (Nd × Option (Nd × Tag))}, Paired (CamV H) cs cm → cs.map (·.1) = cm.map (·.1)
  | _, _, .nil => rfl
  | _, _, .cons (a := x) (b := y) (l₁ := l1) (l₂ := l2) r t => by
    show x.1 :: l1.map (·.1) = y.1 :: l2.map (·.1)
    rw [r.1, cam_keys t]
structure CmOk (g : Gph) (b : Nd) (cm : List (Nd × Option (Nd × Tag))) : Prop where
  nd : (cm.map (·.1)).Nodup
  ent : ∀ (i : Nat) k o, cm[i]? = some (k, o) → (o = none ∧ k = b) ∨ ∃ p t j o', o = some (p, t) ∧ (t, k) ∈ look g p ∧ j < i ∧ cm[j]? = some (p, o')
  sub : ∀ k ∈ cm.map (·.1), k ∈ gkeys g
theorem CmOk.start {g : Gph} {b : Nd} (h : b ∈ gkeys g) : CmOk g b [(b, none)] := by
  refine ⟨by simp, fun i k o e => ?_, fun k hk => ?_⟩
  · cases i with
    | zero =>
      have := Option.some.inj e
      cases this
      exact .inl ⟨rfl, rfl⟩
    | succ i => simp at e
  · have e : k = b := by simpa using hk
    exact e ▸ h
theorem CmOk.add {g : Gph} {b p k : Nd} {t : Tag} {cm : List (Nd × Option (Nd × Tag))} (C : CmOk g b cm) (hk : k ∉ cm.map (·.1)) (hp : p ∈ cm.map (·.1)) (he : (t, k) ∈ look g p) (hg : k ∈ gkeys g) : CmOk g b (cm ++ [(k, some (p, t))]) := by
  refine ⟨?_, fun i k' o e => ?_, fun k' h => ?_⟩
  · rw [List.map_append]
    refine List.nodup_append.mpr ⟨C.nd, by simp, fun x hx y hy => ?_⟩
    have e : y = k := by simpa using hy
    exact fun q => hk (by rw [← e, ← q]; exact hx)
  · by_cases hi : i < cm.length
    · rw [List.getElem?_append_left hi] at e
      rcases C.ent i k' o e with h | ⟨p', t', j, o', h1, h2, h3, h4⟩
      · exact .inl h
      · exact .inr ⟨p', t', j, o', h1, h2, h3, by rw [List.getElem?_append_left (by omega)]; exact h4⟩
    · have hl := (List.getElem?_eq_some_iff.mp e).1
      rw [List.length_append, List.length_singleton] at hl
      have ei : i = cm.length := by omega
      rw [ei, List.getElem?_append_right (Nat.le_refl _), Nat.sub_self] at e
      have e2 := Option.some.inj e
      cases e2
      obtain ⟨⟨p', o'⟩, hm, ep⟩ := List.mem_map.mp hp
      obtain ⟨j, hj⟩ := List.mem_iff_getElem?.mp hm
      have hjl := (List.getElem?_eq_some_iff.mp hj).1
      refine .inr ⟨p, t, j, o', rfl, he, by omega, ?_⟩
      rw [List.getElem?_append_left hjl, hj]
      have : p' = p := ep
      rw [this]
  · rw [List.map_append] at h
    rcases List.mem_append.mp h with h | h
    · exact C.sub k' h
    · have e : k' = k := by simpa using h
      exact e ▸ hg
section
variable {P : Program} {w : World} {K : PySem.W.Frag} {mg : Str → Option Value} {base : Heap}
theorem sc_path_between : FnScope ["edges", "begin", "end", "came", "line", "node", "tag", "target", "tags"] ["edges", "begin", "end"] (defScope s_g_path_between) := ⟨rfl, rfl, rfl, by decide +kernel, rfl, by decide +kernel, by decide +kernel⟩
theorem ok_path_between (T : Tp K mg)  : GOk P w K mg base "path_between" 1 ["edges", "begin", "end"] sp_path_between := by
  refine gok_of (st := s_g_path_between) T.fd_g_path_between T.g_path_between sc_path_between (fun _ _ _ _ _ _ us hl => match us, hl with | [_, _, _], _ => rfl) (fun vs H Q E h => ?_) (fun cdv A outer s H vs Q E hr h => ?_)
  · obtain ⟨d, a, b, kvs, g, u, v, rfl, _⟩ := h
    rfl
  · obtain ⟨d, a, b, kvs, g, u, v, rfl, GA, ok, hua, hvb, hun, huv, k⟩ := h
    have hu := hu_of hr
    refine ⟨_, (pss_cons (ps_par (i := 3) (j := 4) (by rfl) sc_path_between.nd rfl rfl (by decide) rfl rfl (pa_cons (pe_d1T hu (pv 1) pe_non) (pa_cons (pe_lst (pa_cons (pv 1) pa_nil)) pa_nil)) (by rfl))
      (pss_cons (ps_while PassesOwn.never (pt_cmp (pc_dnotin hu (pv 2) (pv 3))) (pss_cons (ps_set (i := 5) sc_path_between.nd rfl (by first | exact Or.inl rfl | exact Or.inr rfl) (pe_bm PySem.F.plainAttrs_list PySem.F.slot_list_pop PySem.F.type_list_pop mt_popAt (pv 4) (pa_cons pe_int pa_nil)))
      (pss_one (ps_for PassesOwn.never rfl (pi_list (pe_dget hu (pv 0) (pv 5) (fun _ _ => rfl))) (pg_tupK K (n := 2) (by rfl) (pgs_cons (pg_name (i := 6) sc_path_between.nd rfl (by first | exact Or.inl rfl | exact Or.inr rfl)) (pgs_cons (pg_name (i := 7) sc_path_between.nd rfl (by first | exact Or.inl rfl | exact Or.inr rfl)) pgs_nil))) (pss_one (ps_if (pt_cmp (pc_dnotin hu (pv 7) (pv 3))) (pss_cons (ps_dput hu (pv 3) (pv 7) (pe_tup (pa_cons (pv 5) (pa_cons (pv 6) pa_nil))) rfl)
      (pss_one (ps_expr (pe_bm PySem.F.plainAttrs_list PySem.F.slot_list_append PySem.F.type_list_append mt_append (pv 4) (pa_cons (pv 7) pa_nil))))) pss_nil))))))
      (pss_cons (ps_par (i := 8) (j := 5) (by rfl) sc_path_between.nd rfl rfl (by decide) rfl rfl (pa_cons (pe_lst pa_nil) (pa_cons (pv 2) pa_nil)) (by rfl))
      (pss_cons (ps_while PassesOwn.never (pt_cmpR op_notN (pe_dget hu (pv 3) (pv 5) (fun _ _ => rfl)) pe_non (nomark _)) (pss_cons (ps_asg (pe_dget hu (pv 3) (pv 5) (fun _ _ => rfl)) (pg_tupK K (n := 2) (by rfl) (pgs_cons (pg_name (i := 5) sc_path_between.nd rfl (by first | exact Or.inl rfl | exact Or.inr rfl)) (pgs_cons (pg_name (i := 6) sc_path_between.nd rfl (by first | exact Or.inl rfl | exact Or.inr rfl)) pgs_nil))))
      (pss_one (ps_expr (pe_bm PySem.F.plainAttrs_list PySem.F.slot_list_append PySem.F.type_list_append mt_append (pv 8) (pa_cons (pv 6) pa_nil))))))
      (pss_one (ps_ret (pe_revL (pv 8)))))))), ?_⟩
    have klen : (gkeys g).length = g.length := by unfold gkeys; rw [List.length_map]
    have lsz : ∀ {x : Nat}, x ≤ 100000 → x < sizeLine := fun {x} hx => by
      rw [sizeLine_eq]
      omega
    have hvn : v ∈ gkeys g := huv.inv (P := fun x => x ∈ gkeys g) (fun x hx y hy => by
      obtain ⟨e, he, rfl⟩ := List.mem_map.mp hy
      exact ok.clo x hx e he) hun
    intro cd hcd
    have s1 := same_new (o := .dT []) hcd
    refine ⟨_, rfl, a, u, rfl, s1 _ _ hua, upd_same, _, rfl, (by show 1 ≤ sizeLine; decide), fun ld hld => ⟨_, _, rfl, ?_⟩⟩
    have ncl : cd ≠ ld := fun e => by
      rw [← e, upd_same] at hld
      cases hld
    have nld : H ld = none := by
      rw [upd_ne ncl.symm, upd_ne ncl.symm] at hld
      exact hld
    obtain ⟨H0, eH0⟩ : ∃ H0, H0 = upd (upd (upd H cd (.dT [])) cd (.dT [(u, V.non)])) ld (.lst [V.ref a]) := ⟨_, rfl⟩
    rw [← eH0]
    have sH0 : Same H H0 := by
      rw [eH0]
      exact same_mut (same_mut (same_mut (Same.refl H) hcd) hcd) nld
    have hc0 : H0 cd = some (.dT [(u, V.non)]) := by rw [eH0, upd_ne ncl, upd_same]
    have hl0 : H0 ld = some (.lst [V.ref a]) := by rw [eH0]; exact upd_same
    have entH : ∀ u ∈ gkeys g, ∃ l ws, valV kvs u = some (.ref l) ∧ H l = some (.lst ws) ∧ Paired (EdgeV H) ws (look g u) := fun u hu => ents_val GA.ents hu
    clear hld s1 eH0
    refine ⟨fun m σ H' => ∃ r5 r6 r7 cs cm lv ln, σ = [some (V.ref d), some (V.ref a), some (V.ref b), some (V.ref cd), some (V.ref ld), r5, r6, r7, none] ∧ Same H H' ∧ H' cd = some (.dT cs) ∧ Paired (CamV H') cs cm ∧ H' ld = some (.lst lv) ∧ Paired (KeyV H') lv ln ∧
      CmOk g u cm ∧ (∀ x ∈ ln, x ∈ cm.map (·.1)) ∧ (∀ x ∈ cm.map (·.1), x ∉ ln → ∀ y ∈ outs g x, y ∈ cm.map (·.1)) ∧ u ∈ cm.map (·.1) ∧ cm.length + wsum (sn cs) (fun _ => 1) (gkeys g) ≤ 60 ∧ m = wsum (sn cs) (fun _ => 1) (gkeys g) + ln.length ∧ m ≤ 1000, ?_, ?_⟩
    · have w1 : wsum (sn [(u, V.non)]) (fun _ => 1) (gkeys g) + 1 ≤ 60 := by
        have h1 := wsum_drop (A := sn []) (A' := sn [(u, V.non)]) (fun _ => 1) (fun x h => by simp [sn, valV] at h) (u := u) (by simp [sn, valV]) (by simp [sn, valV]) hun
        have h2 := wsum_le (A := sn []) (f := fun _ => 1) (c := 1) (l := gkeys g) fun _ _ => Nat.le_refl _
        have h3 := ok.len
        rw [klen] at h2
        omega
      refine ⟨_, none, none, none, [(u, V.non)], [(u, none)], [V.ref a], [u], rfl, sH0, hc0, .cons ⟨rfl, rfl⟩ .nil, hl0, .cons ⟨a, rfl, sH0 _ _ hua⟩ .nil, CmOk.start hun, fun x hx => by simpa using hx, fun x hx hn => absurd (by simpa using hx) hn, by simp, ?_, rfl, ?_⟩
      · simp only [List.length_singleton]
        omega
      · simp only [List.length_singleton]
        omega
    · rintro m σ H1 ⟨r5, r6, r7, cs, cm, lv, ln, rfl, S1, hc1, pc1, hl1, pl1, C1, ml1, cl1, ub1, b1, em, m1⟩
      have keysEq := cam_keys pc1
      have hvb1 := S1 _ _ hvb
      refine ⟨_, rfl, _, rfl, cd, _, rfl, DGet.t hc1 hvb1, _, rfl, ?_⟩
      by_cases hv : v ∈ cm.map (·.1)
      · have e1 : (!(valV cs v).isSome) = false := by
          rw [valV_mem.mpr (by rw [keysEq]; exact hv)]
          rfl
        rw [e1]
        refine iteF ?_
        refine ⟨Nat.zero_le _, fun tl htl => ⟨_, rfl, _, _, rfl, ?_⟩⟩
        have s2 := same_new (o := .lst []) htl
        have ntl : H tl = none := S1.free htl
        have ht2 : (upd H1 tl (.lst [])) tl = some (.lst []) := upd_same
        have hc2 := s2 _ _ hc1
        have pc2 := paired_imp pc1 fun _ _ r => r.mono (.of s2)
        have S2 := S1.trans s2
        generalize upd H1 tl (.lst []) = H2 at s2 ht2 hc2 pc2 S2 ⊢
        have nct : cd ≠ tl := ne_of hc2 ht2 (fun e => nomatch e)
        have cml : cm.length ≤ 60 := by omega
        obtain ⟨iv, ov, hiv⟩ : ∃ iv ov, cm[iv]? = some (v, ov) := by
          obtain ⟨⟨k', o⟩, hm, e⟩ := List.mem_map.mp hv
          obtain ⟨j, hj⟩ := List.mem_iff_getElem?.mp hm
          have : k' = v := e
          exact ⟨j, o, by rw [hj, this]⟩
        have ivl := (List.getElem?_eq_some_iff.mp hiv).1
        refine ⟨fun m σ H' => ∃ r6 na ku o tv ts, σ = [some (V.ref d), some (V.ref a), some (V.ref b), some (V.ref cd), some (V.ref ld), some (V.ref na), r6, r7, some (V.ref tl)] ∧ Same H H' ∧ H' cd = some (.dT cs) ∧ Paired (CamV H') cs cm ∧ H' tl = some (.lst tv) ∧ Paired (TagV H') tv ts ∧
          H' na = some (.tup (ku.map kV)) ∧ cm[m]? = some (ku, o) ∧ Wk g ku ts.reverse v ∧ ts.length + m ≤ iv, ⟨iv, _, b, v, ov, [], [], rfl, S2, hc2, pc2, ht2, .nil, S2 _ _ hvb, hiv, .nil v, by simp⟩, ?_⟩
        rintro m' σ H3 ⟨r6', na, ku, o, tv, ts, rfl, S3, hc3, pc3, ht3, pt3, hna, hm3, wk3, lt3⟩
        obtain ⟨kv, hkv, ckv⟩ := paired_get' pc3 hm3
        obtain ⟨k0, v0⟩ := kv
        obtain ⟨ek, eo⟩ := ckv
        have ek' : k0 = ku := ek
        subst ek'
        have vat : valV cs k0 = some v0 := valV_at (by rw [keysEq]; exact C1.nd) hkv
        have gd : DGet H3 cd (.ref na) (some v0) := .inr ⟨cs, k0, na, .inl hc3, rfl, hna, vat.symm⟩
        refine ⟨_, rfl, _, rfl, cd, _, rfl, gd, rfl, _, rfl, ?_⟩
        rcases C1.ent m' k0 o hm3 with ⟨e1, e2⟩ | ⟨p, t, j, o', e1, e2, e3, e4⟩
        · -- the way's beginning
          subst e1
          have ev : v0 = V.non := eo
          rw [ev]
          refine iteF ?_
          refine ⟨_, rfl, tl, _, rfl, SqL.of ht3, fun p hp => ?_⟩
          have s5 := same_new (o := .lst tv.reverse) hp
          refine k p _ tv.reverse ts.reverse (S3.trans s5) (S3.free hp) upd_same (paired_rev (paired_imp pt3 fun _ _ r => r.mono (.of s5))) (e2 ▸ wk3) ?_
          rw [List.length_reverse]
          omega
        · subst e1
          obtain ⟨q, pa, ta, ev, hq, hpa, hta⟩ := eo
          have ev' : v0 = V.ref q := ev
          subst ev'
          refine iteT ⟨_, fun _ _ h => h, ?_⟩
          refine ⟨_, rfl, _, rfl, cd, _, rfl, gd, q, _, rfl, SqT.of hq, rfl, _, _, rfl, _, _, rfl, rfl, ?_⟩
          refine ⟨_, rfl, .inl ⟨rfl, _, SqL.of ht3⟩, _, rfl, tl, _, _, rfl, rfl, ht3, lsz (by have := paired_len pt3; omega), ?_⟩
          have t4 : TSame H3 (upd H3 tl (.lst (tv ++ [.ref ta]))) := (TSame.refl _).mut ht3 fun _ e => nomatch e
          refine ⟨j, e3, _, pa, p, o', tv ++ [.ref ta], ts ++ [t], rfl, same_mut S3 ntl, by rw [upd_ne nct]; exact hc3, paired_imp pc3 fun _ _ r => r.mono t4, upd_same, paired_app (paired_imp pt3 fun _ _ r => r.mono t4) (.cons ⟨ta, rfl, t4 _ _ hta⟩ .nil), t4 _ _ hpa, e4, ?_, ?_⟩
          · rw [List.reverse_append]
            exact .cons e2 wk3
          · rw [List.length_append, List.length_singleton]
            omega
      · have e1 : (!(valV cs v).isSome) = true := by
          have : ¬ (valV cs v).isSome = true := fun z => hv (by rw [← keysEq]; exact valV_mem.mp z)
          rw [Bool.eq_false_iff.mpr this]
          rfl
        rw [e1]
        refine iteT ⟨_, fun _ _ h => h, ?_⟩
        cases ln with
        | nil =>
          refine absurd (huv.inv (P := fun x => x ∈ cm.map (·.1)) (fun x hx y hy => cl1 x hx (by simp) y hy) ub1) hv
        | cons x ln =>
          cases pl1 with
          | @cons xv _ lv _ hx pl1 =>
            obtain ⟨xa, rfl, hxa⟩ := hx
            have lenL := paired_len pl1
            rw [List.length_cons] at em
            refine ⟨_, rfl, .inl ⟨rfl, _, SqL.of hl1⟩, ld, _, _, 0, _, rfl, rfl, hl1, by decide, by decide, ?_, rfl, ?_⟩
            · show seqIndex? 0 ((V.ref xa :: lv).length) = some 0
              exact (ixN_seq (n := (V.ref xa :: lv).length) (i := 0) (j := 0) (by unfold ixN; simp)).1
            have t2 : TSame H1 (upd H1 ld (.lst lv)) := (TSame.refl _).mut hl1 fun _ e => nomatch e
            have S2 : Same H (upd H1 ld (.lst lv)) := same_mut S1 nld
            have hl2 : (upd H1 ld (.lst lv)) ld = some (.lst lv) := upd_same
            have hc2 : (upd H1 ld (.lst lv)) cd = some (.dT cs) := by rw [upd_ne ncl]; exact hc1
            have pc2 := paired_imp pc1 fun _ _ r => r.mono t2
            have pl2 := paired_imp pl1 fun _ _ r => r.mono t2
            have hxa2 := t2 _ _ hxa
            rw [show (V.ref xa :: lv).eraseIdx 0 = lv from rfl]
            generalize upd H1 ld (.lst lv) = H2 at t2 S2 hl2 hc2 pc2 pl2 hxa2 ⊢
            have xin := ml1 x List.mem_cons_self
            have xg := C1.sub x xin
            obtain ⟨l, ws, w1, w2, w3⟩ := entH x xg
            have wl : ws.length = (outs g x).length := by
              unfold outs
              rw [List.length_map]
              exact paired_len w3
            refine ⟨_, rfl, _, rfl, d, _, rfl, .inr ⟨kvs, x, xa, .inl (S2 _ _ GA.dict), rfl, hxa2, w1.symm⟩, l, rfl, ⟨ws, SqL.of (S2 _ _ w2)⟩, ?_⟩
            refine for_it (walk_list (xs := ws)) (fun jj σ H' => ∃ r6 r7 cs cm lv ln, σ = [some (V.ref d), some (V.ref a), some (V.ref b), some (V.ref cd), some (V.ref ld), some (V.ref xa), r6, r7, none] ∧ Same H H' ∧ H' cd = some (.dT cs) ∧ Paired (CamV H') cs cm ∧ H' ld = some (.lst lv) ∧ Paired (KeyV H') lv ln ∧ H' xa = some (.tup (x.map kV)) ∧
              CmOk g u cm ∧ (∀ z ∈ ln, z ∈ cm.map (·.1)) ∧ (∀ z ∈ cm.map (·.1), z ∉ ln → z = x ∨ ∀ y ∈ outs g z, y ∈ cm.map (·.1)) ∧ u ∈ cm.map (·.1) ∧ x ∈ cm.map (·.1) ∧ (∀ y ∈ (outs g x).take jj, y ∈ cm.map (·.1)) ∧
              cm.length + wsum (sn cs) (fun _ => 1) (gkeys g) ≤ 60 ∧ wsum (sn cs) (fun _ => 1) (gkeys g) + ln.length < m) ?_ ?_ ?_ ?_
            · refine ⟨r6, r7, cs, cm, lv, ln, rfl, S2, hc2, pc2, hl2, pl2, hxa2, C1, fun z hz => ml1 z (List.mem_cons_of_mem _ hz), fun z hz hn => ?_, ub1, xin, fun y hy => by simp at hy, b1, by omega⟩
              by_cases e : z = x
              · exact .inl e
              · refine .inr (cl1 z hz fun q => ?_)
                rcases List.mem_cons.mp q with q | q
                · exact e q
                · exact hn q
            · rintro jj σ H' _ ⟨_, _, _, _, _, _, _, S', _⟩
              exact SqL.of (S' _ _ w2)
            · rintro jj xe σ H3 H4 hj ⟨r6, r7, cs, cm, lv, ln, rfl, S3, hc3, pc3, hl3, pl3, hxa3, C3, ml3, cl3, ub3, xb3, done3, b3, m3⟩ ⟨rfl, hxj⟩
              obtain ⟨e, he1, pe, ta, ka, rfl, hpe, hta, hka⟩ := paired_get w3 hxj
              have ts3 := TSame.of S3
              refine ⟨pe, _, rfl, SqT.of (ts3 _ _ hpe), rfl, _, _, rfl, _, _, rfl, rfl, ?_⟩
              have hka3 := ts3 _ _ hka
              have hta3 := ts3 _ _ hta
              have etl : (outs g x)[jj]? = some e.2 := by
                unfold outs
                rw [List.getElem?_map, he1]
                rfl
              have tk : (outs g x).take (jj + 1) = (outs g x).take jj ++ [e.2] := by rw [List.take_add_one, etl]; rfl
              have keysEq3 := cam_keys pc3
              have len3 := paired_len pc3
              have lenl3 := paired_len pl3
              refine ⟨_, rfl, _, rfl, cd, _, rfl, DGet.t hc3 hka3, _, rfl, ?_⟩
              by_cases hin : e.2 ∈ cm.map (·.1)
              · have e1 : (!(valV cs e.2).isSome) = false := by
                  rw [valV_mem.mpr (by rw [keysEq3]; exact hin)]
                  rfl
                rw [e1]
                refine iteF ?_
                refine ⟨_, _, cs, cm, lv, ln, rfl, S3, hc3, pc3, hl3, pl3, hxa3, C3, ml3, cl3, ub3, xb3, fun y hy => ?_, b3, m3⟩
                rw [tk] at hy
                rcases List.mem_append.mp hy with q | q
                · exact done3 y q
                · have : y = e.2 := by simpa using q
                  exact this ▸ hin
              · have nval : valV cs e.2 = none := by
                  have : ¬ (valV cs e.2).isSome = true := fun z => hin (by rw [← keysEq3]; exact valV_mem.mp z)
                  simpa using this
                rw [nval]
                refine iteT ?_
                refine ⟨_, rfl, _, rfl, (by show 2 ≤ sizeLine; decide), fun tp htp => ?_⟩
                have s5 := same_new (o := .tup [V.ref xa, V.ref ta]) htp
                have hp5 : (upd H4 tp (.tup [V.ref xa, V.ref ta])) tp = some (.tup [V.ref xa, V.ref ta]) := upd_same
                generalize upd H4 tp (.tup [V.ref xa, V.ref ta]) = H5 at s5 hp5 ⊢
                refine ⟨_, rfl, _, rfl, cd, _, rfl, DPut.t (s5 _ _ hc3) (s5 _ _ hka3) (lsz (by omega)), ?_⟩
                rw [putK_new _ nval]
                have t6 : TSame H5 (upd H5 cd (.dT (cs ++ [(e.2, V.ref tp)]))) := (TSame.refl _).mut (s5 _ _ hc3) fun _ e => nomatch e
                have t46 := (TSame.of s5).trans t6
                have S6 : Same H (upd H5 cd (.dT (cs ++ [(e.2, V.ref tp)]))) := same_mut (S3.trans s5) hcd
                have hc6 : (upd H5 cd (.dT (cs ++ [(e.2, V.ref tp)]))) cd = some (.dT (cs ++ [(e.2, V.ref tp)])) := upd_same
                have hl6 : (upd H5 cd (.dT (cs ++ [(e.2, V.ref tp)]))) ld = some (.lst lv) := by rw [upd_ne ncl.symm]; exact s5 _ _ hl3
                have hp6 := t6 _ _ hp5
                generalize upd H5 cd (.dT (cs ++ [(e.2, V.ref tp)])) = H6 at t6 t46 S6 hc6 hl6 hp6 ⊢
                refine ⟨_, rfl, .inl ⟨rfl, _, SqL.of hl6⟩, _, rfl, ld, _, _, rfl, rfl, hl6, lsz (by omega), ?_⟩
                have t7 : TSame H6 (upd H6 ld (.lst (lv ++ [V.ref ka]))) := (TSame.refl _).mut hl6 fun _ e => nomatch e
                have t47 := t46.trans t7
                have snE : ∀ z, sn (cs ++ [(e.2, V.ref tp)]) z = true ↔ sn cs z = true ∨ z = e.2 := fun z => by
                  unfold sn
                  rw [valV_mem, valV_mem, List.map_append]
                  simp
                have d1 := wsum_drop (A := sn cs) (A' := sn (cs ++ [(e.2, V.ref tp)])) (fun _ => 1) (fun z h => (snE z).mpr (.inl h)) (u := e.2) (by unfold sn; rw [nval]; simp) ((snE _).mpr (.inr rfl)) (ok.clo x xg e (List.mem_of_getElem? he1))
                refine ⟨_, _, _, cm ++ [(e.2, some (x, e.1))], _, ln ++ [e.2], rfl, same_mut S6 nld, by rw [upd_ne ncl]; exact hc6,
                  paired_app (paired_imp pc3 fun _ _ r => r.mono t47) (.cons ⟨rfl, tp, xa, ta, rfl, t7 _ _ hp6, t47 _ _ hxa3, t47 _ _ hta3⟩ .nil), upd_same, paired_app (paired_imp pl3 fun _ _ r => r.mono t47) (.cons ⟨ka, rfl, t47 _ _ hka3⟩ .nil), t47 _ _ hxa3,
                  C3.add hin xb3 (List.mem_of_getElem? he1) (ok.clo x xg e (List.mem_of_getElem? he1)), fun z hz => ?_, fun z hz hn => ?_, ?_, ?_, fun y hy => ?_, ?_, ?_⟩
                · rw [List.map_append]
                  rcases List.mem_append.mp hz with q | q
                  · exact List.mem_append_left _ (ml3 z q)
                  · exact List.mem_append_right _ (by simpa using q)
                · rw [List.map_append] at hz
                  rcases List.mem_append.mp hz with q | q
                  · rcases cl3 z q (fun w => hn (List.mem_append_left _ w)) with r | r
                    · exact .inl r
                    · refine .inr fun y hy => ?_
                      rw [List.map_append]
                      exact List.mem_append_left _ (r y hy)
                  · have : z = e.2 := by simpa using q
                    exact absurd (List.mem_append_right _ (by simp [this])) hn
                · rw [List.map_append]
                  exact List.mem_append_left _ ub3
                · rw [List.map_append]
                  exact List.mem_append_left _ xb3
                · rw [tk] at hy
                  rw [List.map_append]
                  rcases List.mem_append.mp hy with q | q
                  · exact List.mem_append_left _ (done3 y q)
                  · have : y = e.2 := by simpa using q
                    exact List.mem_append_right _ (by simp [this])
                · rw [List.length_append, List.length_singleton]
                  omega
                · rw [List.length_append, List.length_singleton]
                  omega
            · rintro σ H' ⟨r6, r7, cs, cm, lv, ln, rfl, S3, hc3, pc3, hl3, pl3, hxa3, C3, ml3, cl3, ub3, xb3, done3, b3, m3⟩
              refine ⟨_, m3, _, _, _, cs, cm, lv, ln, rfl, S3, hc3, pc3, hl3, pl3, C3, ml3, fun z hz hn y hy => ?_, ub3, b3, rfl, by omega⟩
              rcases cl3 z hz hn with r | r
              · subst r
                exact done3 y (by rw [wl, List.take_length]; exact hy)
              · exact r y hy
end
end K42
set_option Elab.async false
set_option linter.all false
set_option maxRecDepth 100000
set_option maxHeartbeats 4000000
namespace K42
open PySem PySem.Spec PyProof.Rows L2

def TestV (H : Hp) (v : V) (o : Option (Int × Int)) : Prop := match o with
  | none => v = .non
  | some (i, n) => ∃ q, v = .ref q ∧ H q = some (.tup [.int i, .int n])
theorem TestV.mono {H H' : Hp} {v : V} {o : Option (Int × Int)} (s : TSame H H') (h : TestV H v o) : TestV H' v o := by
  cases o with
  | none => exact h
  | some p =>
    obtain ⟨q, e, h⟩ := h
    exact ⟨q, e, s _ _ h⟩
def TestOk (o : Option (Int × Int)) : Prop := match o with
  | none => True
  | some (i, _) => i = 1 ∨ i = 2
def passB (t : Tag) (o : Option (Int × Int)) : Bool := match o with
  | none => true
  | some (i, n) => decide ((if i = 1 then t.2.1 else t.2.2) = n)
def sp_passes : Sp := fun vs H Q _ => ∃ (a : Addr) (tv : V) (t : Tag) (o : Option (Int × Int)), vs = [.ref a, tv] ∧ H a = some (.tup (tagL t)) ∧ TestV H tv o ∧ TestOk o ∧ Q (.bl (passB t o)) H
def fits (a b : Int) (e : Edge) : Bool := decide (e.1.2.1 ≤ a) && decide (e.1.2.2 ≤ b)
def boundG (g : Gph) (a b : Int) : Gph := g.map fun ne => (ne.1, ne.2.filter (fits a b))
theorem bound_keys (g : Gph) (a b : Int) : gkeys (boundG g a b) = gkeys g := by
  unfold gkeys boundG
  rw [List.map_map]
  rfl
theorem bound_look (a b : Int) : ∀ (g : Gph) (u : Nd), look (boundG g a b) u = (look g u).filter (fits a b)
  | [], u => rfl
  | p :: r, u => by
    show (if p.1 = u then p.2.filter (fits a b) else look (boundG r a b) u) = (if p.1 = u then p.2 else look r u).filter (fits a b)
    by_cases e : p.1 = u
    · rw [if_pos e, if_pos e]
    · rw [if_neg e, if_neg e, bound_look a b r]
theorem bound_ok {g : Gph} (a b : Int) (ok : GOk' g) : GOk' (boundG g a b) := by
  refine ⟨by rw [bound_keys]; exact ok.nd, fun u hu e he => ?_, ?_, fun u => ?_⟩
  · rw [bound_keys] at hu ⊢
    rw [bound_look] at he
    exact ok.clo u hu e (List.mem_filter.mp he).1
  · unfold boundG
    rw [List.length_map]
    exact ok.len
  · rw [bound_look]
    exact Nat.le_trans (List.length_filter_le _ _) (ok.deg u)
def sp_bounded : Sp := fun vs H Q _ => ∃ (d : Addr) (a b : Int) (kvs : List (Nd × V)) (g : Gph), vs = [.ref d, .int a, .int b] ∧ GphAt H d kvs g ∧ GOk' g ∧
  ∀ (p : Addr) (H' : Hp) (kvs' : List (Nd × V)), Same H H' → H p = none → GphAt H' p kvs' (boundG g a b) → Q (.ref p) H'
theorem EntV.monoX {H H' : Hp} {p : Addr} {u : HO} {kv : Nd × V} {ne : Nd × List Edge} (s : SameX p H H') (hp : H p = some u) (h1 : ∀ xs, u ≠ .lst xs) (h2 : ∀ xs, u ≠ .tup xs) (h : EntV H kv ne) : EntV H' kv ne := by
  obtain ⟨e, l, vs, e1, e2, e3⟩ := h
  exact ⟨e, l, vs, e1, s _ _ (ne_of e2 hp (fun z => h1 _ z.symm)) e2, paired_imp e3 fun _ _ r => r.mono (s.ts hp h2)⟩
theorem lc_edges {K : PySem.W.Frag} {σ : L2.St} {H : Hp} {tl : TE} {tt : TT} {i j : Nat} {Q : VK} {l : Addr} {ws : List V} {es : List Edge} (f : Edge → Bool) (hl : ∀ R : VK, R (.ref l) H → tl σ H R) (hH : H l = some (.lst ws)) (pw : Paired (EdgeV H) ws es) (hlen : es.length ≤ 1000)
    (hw : ∀ x y, wipe (((wipe σ [i, j]).set i x).set j y) [i, j] = wipe σ [i, j]) (hx : ∀ x y, (((wipe σ [i, j]).set i x).set j y)[i]? = some x) (hy : ∀ x y, (((wipe σ [i, j]).set i x).set j y)[j]? = some y)
    (ht : ∀ H' ta ka (e : Edge) (R : Bool → Hp → Prop), Same H H' → e ∈ es → H' ta = some (.tup (tagL e.1)) → H' ka = some (.tup (e.2.map kV)) → R (f e) H' → tt (((wipe σ [i, j]).set i (some (.ref ta))).set j (some (.ref ka))) H' R)
    (k : ∀ D H' vs, Same H H' → H D = none → H' D = some (.lst vs) → Paired (EdgeV H') vs (es.filter f) → Q (.ref D) H') :
    tLc (iList K tl) (gTup K 2 (gCons (gName i) (gCons (gName j) gNil))) tt (tTup (tCons (tVar i) (tCons (tVar j) tNil))) [i, j] σ H Q := by
  refine hl _ ⟨l, rfl, ⟨ws, SqL.of hH⟩, fun D hD => ?_⟩
  have hs0 := same_new (o := .lst []) hD
  refine lc_it (walk_list (xs := ws)) (fun n H' => Same H H' ∧ ∃ vs, H' D = some (.lst vs) ∧ Paired (EdgeV H') vs ((es.take n).filter f)) ⟨hs0, [], upd_same, .nil⟩ (fun n H' _ p => SqL.of (p.1 _ _ hH)) ?_ ?_
  · rintro n x H1 H2 hn ⟨s1, vs, hv, pv⟩ ⟨rfl, hxn⟩
    obtain ⟨e, he, pe, ta, ka, rfl, hpe, hta, hka⟩ := paired_get pw hxn
    have e1 := s1 _ _ hpe
    have e2 := s1 _ _ hta
    have e3 := s1 _ _ hka
    refine ⟨pe, _, rfl, SqT.of e1, rfl, _, _, rfl, _, _, rfl, rfl, hw _ _, ht _ ta ka e _ s1 (List.mem_of_getElem? he) e2 e3 ?_⟩
    have tk : (es.take (n + 1)) = es.take n ++ [e] := by rw [List.take_add_one, he]; rfl
    have lv := paired_len pv
    have lf := List.length_filter_le f (es.take n)
    have lt := List.length_take_le' n es
    cases hf : f e with
    | true =>
      refine iteT ⟨_, hx _ _, _, hy _ _, (by show 2 ≤ sizeLine; decide), fun p hp => ?_⟩
      have s2 := same_new (o := .tup [V.ref ta, V.ref ka]) hp
      refine ⟨vs, s2 _ _ hv, by rw [sizeLine_eq]; omega, same_mut (s1.trans s2) hD, _, upd_same, ?_⟩
      have t3 := (TSame.of s2).trans ((TSame.refl _).mut (o := .lst (vs ++ [V.ref p])) (s2 _ _ hv) fun _ e => nomatch e)
      rw [tk, List.filter_append]
      refine paired_app (paired_imp pv fun _ _ r => r.mono t3) ?_
      rw [List.filter_cons, if_pos hf]
      refine .cons ⟨p, ta, ka, rfl, ?_, t3 _ _ e2, t3 _ _ e3⟩ .nil
      rw [upd_ne (ne_of_none (hv) hp).symm, upd_same]
    | false =>
      refine iteF ⟨s1, vs, hv, ?_⟩
      rw [tk, List.filter_append, List.filter_cons, if_neg (by rw [hf]; decide)]
      show Paired _ vs (_ ++ [])
      rw [List.append_nil]
      exact pv
  · rintro H1 ⟨s1, vs, hv, pv⟩
    rw [List.take_of_length_le (by rw [← paired_len pw]; exact Nat.le_refl _)] at pv
    exact k D H1 vs s1 hD hv pv
section
variable {P : Program} {w : World} {K : PySem.W.Frag} {mg : Str → Option Value} {base : Heap}
theorem sc_passes : FnScope ["tag", "test"] ["tag", "test"] (defScope s_g_passes) := ⟨rfl, rfl, rfl, by decide +kernel, rfl, by decide +kernel, by decide +kernel⟩
theorem ok_passes (T : Tp K mg)  : GOk P w K mg base "passes" 1 ["tag", "test"] sp_passes := by
  refine gok_of (st := s_g_passes) T.fd_g_passes T.g_passes sc_passes (fun _ _ _ _ _ _ us hl => match us, hl with | [_, _], _ => rfl) (fun vs H Q E h => ?_) (fun cdv A outer s H vs Q E hr h => ?_)
  · obtain ⟨a, tv, t, o, rfl, _⟩ := h
    rfl
  · obtain ⟨a, tv, t, o, rfl, ha, ht, hto, k⟩ := h
    have hu := hu_of hr
    refine ⟨_, (pss_one (ps_ret (pe_or (pe_cmpR op_isN (pv 1) pe_non (nomark _)) (pe_one (pe_cmpR op_eq (pe_ix (ix_tupK K) (pv 0) (pe_ix (ix_tupK K) (pv 1) pe_int (fun _ _ => rfl)) (fun _ _ => rfl)) (pe_ix (ix_tupK K) (pv 1) pe_int (fun _ _ => rfl)) (nomark _)))))), ?_⟩
    refine ⟨_, rfl, rfl, _, rfl, ?_⟩
    cases o with
    | none =>
      have e : tv = .non := ht
      subst e
      exact iteT k
    | some p =>
      obtain ⟨i, n⟩ := p
      obtain ⟨q, e, hq⟩ := ht
      subst e
      refine iteF ?_
      have at_ : atI (tagL t) i = some (V.int (if i = 1 then t.2.1 else t.2.2)) := by
        rcases hto with e | e
        · subst e
          rfl
        · subst e
          rfl
      refine ⟨_, rfl, _, rfl, q, _, _, V.int i, rfl, rfl, SqT.of hq, rfl, a, _, _, _, rfl, rfl, SqT.of ha, at_, _, rfl, q, _, _, V.int n, rfl, rfl, SqT.of hq, rfl, rfl, ?_⟩
      have e2 : decide (V.int (if i = 1 then t.2.1 else t.2.2) = V.int n) = passB t (some (i, n)) := by
        show _ = decide ((if i = 1 then t.2.1 else t.2.2) = n)
        by_cases z : (if i = 1 then t.2.1 else t.2.2) = n
        · rw [z]
          simp
        · rw [decide_eq_false z, decide_eq_false (fun w => z (V.int.inj w))]
      rw [e2]
      exact k
theorem sc_bounded : FnScope ["edges", "first", "second", "found", "node", "rows", "tag", "target"] ["edges", "first", "second"] (defScope s_g_bounded) := ⟨rfl, rfl, rfl, by decide +kernel, rfl, by decide +kernel, by decide +kernel⟩
theorem ok_bounded (T : Tp K mg)  : GOk P w K mg base "bounded" 1 ["edges", "first", "second"] sp_bounded := by
  refine gok_of (st := s_g_bounded) T.fd_g_bounded T.g_bounded sc_bounded (fun _ _ _ _ _ _ us hl => match us, hl with | [_, _, _], _ => rfl) (fun vs H Q E h => ?_) (fun cdv A outer s H vs Q E hr h => ?_)
  · obtain ⟨d, a, b, kvs, g, rfl, _⟩ := h
    rfl
  · obtain ⟨d, a, b, kvs, g, rfl, GA, ok, k⟩ := h
    have hu := hu_of hr
    refine ⟨_, (pss_cons (ps_set (i := 3) sc_bounded.nd rfl (by first | exact Or.inl rfl | exact Or.inr rfl) pe_dnewT)
      (pss_cons (ps_lock (ps_for PassesOwn.never rfl (pi_keys (pv 0)) (pg_name (i := 4) sc_bounded.nd rfl (by first | exact Or.inl rfl | exact Or.inr rfl)) (pss_cons (ps_set (i := 5) sc_bounded.nd rfl (by first | exact Or.inl rfl | exact Or.inr rfl) (pe_dget hu (pv 0) (pv 4) (fun _ _ => rfl)))
      (pss_one (ps_dput hu (pv 3) (pv 4) (pe_lc (own := [("tag", 6), ("target", 7)]) (by rfl) sc_bounded.nd (pi_list (pv 5)) (blkOk_by (own := [("tag", 6), ("target", 7)]) (N := ["edges", "first", "second", "found", "node", "rows", "tag", "target"]) (sc := defScope s_g_bounded) (by decide +kernel)) (fun _ _ _ _ _ => (pg_tupK K (n := 2) (by rfl) (pgs_cons (pg_name (i := 6) sc_bounded.nd rfl (by first | exact Or.inl rfl | exact Or.inr rfl)) (pgs_cons (pg_name (i := 7) sc_bounded.nd rfl (by first | exact Or.inl rfl | exact Or.inr rfl)) pgs_nil)))) (fun _ _ _ _ _ => (pts_one (PW.pt (pw_and (pt_cmpR op_le (pe_ix (ix_tupK K) (pv 6) pe_int (fun _ _ => rfl)) (pv 1) (nomark _)) (pw_and1 (pt_cmpR op_le (pe_ix (ix_tupK K) (pv 6) pe_int (fun _ _ => rfl)) (pv 2) (nomark _))))))) (fun _ _ _ _ _ => (pe_tup (pa_cons (pv 6) (pa_cons (pv 7) pa_nil))))) rfl)))))
      (pss_one (ps_ret (pv 3))))), ?_⟩
    have lens : kvs.length = g.length := paired_len GA.ents
    intro fd hfd
    have ndf : d ≠ fd := ne_of_none GA.dict hfd
    have hd1 : (upd H fd (.dT [])) d = some (.dT kvs) := by rw [upd_ne ndf]; exact GA.dict
    refine ⟨d, _, hd1, trivial, fun ob => ?_⟩
    obtain ⟨B, eB⟩ : ∃ B, B = upd H d (.frz ob (.dT kvs)) := ⟨_, rfl⟩
    have hBd : B d = some (.frz ob (.dT kvs)) := by rw [eB]; exact upd_same
    have nBf : B fd = none := by rw [eB, upd_ne ndf.symm]; exact hfd
    have tsB : TSame H B := by
      rw [eB]
      exact tsame_lock GA.dict (fun _ e => nomatch e)
    have entB : ∀ u ∈ gkeys g, ∃ l ws, valV kvs u = some (.ref l) ∧ B l = some (.lst ws) ∧ Paired (EdgeV B) ws (look g u) := fun u hu => by
      obtain ⟨l, ws, e1, e2, e3⟩ := ents_val GA.ents hu
      refine ⟨l, ws, e1, ?_, paired_imp e3 fun _ _ r => r.mono tsB⟩
      rw [eB, upd_ne (ne_of e2 GA.dict (fun e => nomatch e))]
      exact e2
    refine ⟨_, rfl, d, ob, rfl, .inr ⟨kvs, upd_same, ?_⟩⟩
    refine for_it walk_keysT (fun i σ H' => ∃ r4 r5 r6 r7 fs, σ = [some (V.ref d), some (V.int a), some (V.int b), some (V.ref fd), r4, r5, r6, r7] ∧ Same B H' ∧ H' fd = some (.dT fs) ∧ Paired (EntV H') fs (boundG (g.take i) a b)) ?_ ?_ ?_ ?_
    · refine ⟨none, none, none, none, [], rfl, fun x o e => ?_, ?_, .nil⟩
      · rw [eB] at e
        by_cases q : x = d
        · subst q
          rw [upd_same] at e ⊢
          exact e
        · rw [upd_ne q] at e ⊢
          rw [upd_ne (ne_of_none e hfd)]
          exact e
      · rw [upd_ne ndf.symm, upd_same]
    · rintro i σ H' _ ⟨_, _, _, _, _, _, S, _⟩
      exact S _ _ hBd
    · rintro i x σ H1 H2 hi ⟨r4, r5, r6, r7, fs, rfl, S1, hf1, pf1⟩ ⟨rfl, ku, vu, qa, hix, rfl, hq⟩
      obtain ⟨ne, hne, ent⟩ := paired_get GA.ents hix
      have eku : ku = ne.1 := ent.1
      have kin : (gkeys g)[i]? = some ku := by
        unfold gkeys
        rw [List.getElem?_map, hne, eku]
        rfl
      obtain ⟨l, ws, w1, w2, w3⟩ := entB ku (List.mem_of_getElem? kin)
      have elook : look g ku = ne.2 := by
        obtain ⟨_, l', vs', e1, e2, e3⟩ := ent
        have lk : ∀ (g : Gph) (i : Nat) (ne : Nd × List Edge), (gkeys g).Nodup → g[i]? = some ne → look g ne.1 = ne.2 := by
          intro g
          induction g with
          | nil => intro i ne _ h; simp at h
          | cons p r ih =>
            intro i ne nd h
            have nd2 := List.nodup_cons.mp nd
            cases i with
            | zero =>
              have := Option.some.inj h
              subst this
              unfold look
              rw [if_pos rfl]
            | succ i =>
              have h2 : r[i]? = some ne := h
              have : ¬ p.1 = ne.1 := fun e => nd2.1 (by show p.1 ∈ _; rw [e]; exact List.mem_map.mpr ⟨ne, List.mem_of_getElem? h2, rfl⟩)
              unfold look
              rw [if_neg this]
              exact ih i ne nd2.2 h2
        rw [eku]
        exact lk g i ne ok.nd hne
      have wl10 := ok.deg ku
      refine ⟨_, rfl, _, rfl, d, _, rfl, .inr ⟨kvs, ku, qa, .inr ⟨ob, S1 _ _ hBd⟩, rfl, hq, w1.symm⟩, ?_⟩
      have tS1 := TSame.of S1
      dsimp only [gName, sDPut]
      refine lc_edges (l := l) (es := look g ku) (fits a b) (fun R r => ⟨_, rfl, r⟩) (S1 _ _ w2) (paired_imp w3 fun _ _ r => r.mono tS1) (by omega) (fun _ _ => rfl) (fun _ _ => rfl) (fun _ _ => rfl) ?_ ?_
      · intro H' ta ka e R s' _ hta hka hR
        have c1 : ∀ (x y : Int), decide (x ≤ y) = true ∨ decide (x ≤ y) = false := fun x y => by cases decide (x ≤ y) <;> simp
        refine ⟨_, rfl, ta, _, _, V.int e.1.2.1, rfl, rfl, SqT.of hta, rfl, _, rfl, _, _, rfl, rfl, _, rfl, ?_⟩
        unfold fits at hR
        rcases c1 e.1.2.1 a with z | z
        · rw [z] at hR ⊢
          refine iteT ⟨_, rfl, ta, _, _, V.int e.1.2.2, rfl, rfl, SqT.of hta, rfl, _, rfl, _, _, rfl, rfl, _, rfl, ?_⟩
          rw [Bool.true_and] at hR
          exact hR
        · rw [z] at hR ⊢
          exact iteF hR
      · intro D H' vs s' hD hv pv
        have lf := paired_len pf1
        have lb : (boundG (g.take i) a b).length ≤ 60 := by
          unfold boundG
          rw [List.length_map, List.length_take]
          have := ok.len
          omega
        refine ⟨_, rfl, _, rfl, fd, _, rfl, DPut.t (s' _ _ hf1) (s' _ _ hq) (by rw [sizeLine_eq]; omega), ?_⟩
        have nk : valV fs ku = none := by
          have h1 := ents_keys pf1
          rw [bound_keys] at h1
          have h2 : ku ∉ fs.map (·.1) := by
            rw [h1]
            intro hm
            have nd := ok.nd
            have e1 : gkeys g = gkeys (g.take i) ++ gkeys (g.drop i) := by
              unfold gkeys
              rw [← List.map_append, List.take_append_drop]
            rw [e1] at nd
            have kd : ku ∈ gkeys (g.drop i) := by
              unfold gkeys
              rw [eku]
              refine List.mem_map.mpr ⟨ne, ?_, rfl⟩
              refine List.mem_iff_getElem?.mpr ⟨0, ?_⟩
              rw [List.getElem?_drop]
              exact hne
            exact (List.nodup_append.mp nd).2.2 ku hm ku kd rfl
          have : ¬ (valV fs ku).isSome = true := fun z => h2 (valV_mem.mp z)
          simpa using this
        rw [putK_new _ nk]
        have sx : SameX fd H' (upd H' fd (.dT (fs ++ [(ku, V.ref D)]))) := (SameX.refl _ _).put
        have tx := sx.ts (s' _ _ hf1) fun _ e => nomatch e
        refine ⟨_, _, _, _, _, rfl, same_mut (S1.trans s') nBf, upd_same, ?_⟩
        have tk : g.take (i + 1) = g.take i ++ [ne] := by rw [List.take_add_one, hne]; rfl
        have be : boundG (g.take (i + 1)) a b = boundG (g.take i) a b ++ [(ne.1, ne.2.filter (fits a b))] := by
          rw [tk]
          unfold boundG
          rw [List.map_append]
          rfl
        rw [be]
        refine paired_app (paired_imp pf1 fun _ _ r => (r.mono s').monoX sx (s' _ _ hf1) (fun _ e => nomatch e) (fun _ e => nomatch e)) (.cons ⟨eku, D, vs, rfl, ?_, ?_⟩ .nil)
        · rw [upd_ne (ne_of hv (s' _ _ hf1) (fun e => nomatch e))]
          exact hv
        · rw [← elook]
          exact paired_imp pv fun _ _ r => r.mono tx
    · rintro σ H1 ⟨r4, r5, r6, r7, fs, rfl, S1, hf1, pf1⟩
      refine ⟨S1 _ _ hBd, _, rfl, ?_⟩
      rw [eB] at S1
      have e : g.take kvs.length = g := List.take_of_length_le (by rw [lens]; exact Nat.le_refl _)
      rw [e] at pf1
      have hd' := S1 _ _ upd_same
      have sx : SameX d H1 (upd H1 d (.dT kvs)) := (SameX.refl _ _).put
      exact k fd _ fs (same_unlock GA.dict S1) hfd ⟨by rw [upd_ne ndf.symm]; exact hf1, paired_imp pf1 fun _ _ r => r.monoX sx hd' (fun _ e => nomatch e) (fun _ e => nomatch e)⟩
end
end K42
set_option Elab.async false
set_option linter.all false
set_option maxRecDepth 100000
set_option maxHeartbeats 4000000
namespace K42
open PySem PySem.Spec PyProof.Rows L2

abbrev Ch := Nd × Tag × Nd
def ChV (H : Hp) (v : V) (c : Ch) : Prop := ∃ q a b e, v = .ref q ∧ H q = some (.tup [.ref a, .ref b, .ref e]) ∧ H a = some (.tup (c.1.map kV)) ∧ H b = some (.tup (tagL c.2.1)) ∧ H e = some (.tup (c.2.2.map kV))
theorem ChV.mono {H H' : Hp} {v : V} {c : Ch} (t : TSame H H') (h : ChV H v c) : ChV H' v c := by
  obtain ⟨q, a, b, e, h1, h2, h3, h4, h5⟩ := h
  exact ⟨q, a, b, e, h1, t _ _ h2, t _ _ h3, t _ _ h4, t _ _ h5⟩
def WalkV (H : Hp) (v : V) (u : Nd) (ts : List Tag) : Prop := ∃ r na tl tvs, v = .ref r ∧ H r = some (.tup [.ref na, .ref tl]) ∧ H na = some (.tup (u.map kV)) ∧ H tl = some (.lst tvs) ∧ Paired (TagV H) tvs ts
theorem WalkV.mono {H H' : Hp} {v : V} {u : Nd} {ts : List Tag} (s : Same H H') (h : WalkV H v u ts) : WalkV H' v u ts := by
  obtain ⟨r, na, tl, tvs, h1, h2, h3, h4, h5⟩ := h
  exact ⟨r, na, tl, tvs, h1, s _ _ h2, s _ _ h3, s _ _ h4, paired_imp h5 fun _ _ r => r.mono (.of s)⟩
structure ChOk (g : Gph) (ps : List (Nd × V)) (n : Int) (c : Ch) : Prop where
  key : c.1 ∈ gkeys g
  edge : (c.2.1, c.2.2) ∈ look g c.1
  p1 : valV ps c.1 = some (.int n)
  p2 : valV ps c.2.2 = some (.int n)
def sp_closed_walk : Sp := fun vs H Q _ => ∃ (d pd ch : Addr) (kvs : List (Nd × V)) (g : Gph) (ps : List (Nd × V)) (cvs : List V) (cs : List Ch) (n : Int), vs = [.ref d, .ref pd, .ref ch] ∧ GphAt H d kvs g ∧ GOk' g ∧ H pd = some (.dT ps) ∧ PartOk g ps ∧
  H ch = some (.lst cvs) ∧ Paired (ChV H) cvs cs ∧ cs ≠ [] ∧ cs.length ≤ 3 ∧ (∀ c ∈ cs, ChOk g ps n c) ∧
  ∀ (v : V) (H' : Hp) (u : Nd) (ts : List Tag), Same H H' → WalkV H' v u ts → Wk g u ts u → (∀ c ∈ cs, c.2.1 ∈ ts) → ts ≠ [] → ts.length ≤ 300 → u ∈ gkeys g → Q v H'
def hasN (ps : List (Nd × V)) (n : Int) (u : Nd) : Bool := decide (valV ps u = some (.int n))
def insE (ps : List (Nd × V)) (n : Int) (ne : Nd × List Edge) : Nd × List Edge := (ne.1, ne.2.filter fun e => hasN ps n e.2)
def insG (ps : List (Nd × V)) (n : Int) (g : Gph) : Gph := (g.filter fun ne => hasN ps n ne.1).map (insE ps n)
theorem ins_keys (ps : List (Nd × V)) (n : Int) (g : Gph) : gkeys (insG ps n g) = (gkeys g).filter (hasN ps n) := by
  unfold gkeys insG
  rw [List.map_map, List.filter_map]
  rfl
theorem ins_look (ps : List (Nd × V)) (n : Int) : ∀ (g : Gph) (u : Nd), hasN ps n u = true → look (insG ps n g) u = (look g u).filter fun e => hasN ps n e.2
  | [], u, _ => rfl
  | p :: r, u, h => by
    have ih := ins_look ps n r u h
    by_cases e : p.1 = u
    · have hp : hasN ps n p.1 = true := by rw [e]; exact h
      unfold insG
      rw [List.filter_cons, if_pos hp, List.map_cons]
      show (if p.1 = u then _ else _) = (if p.1 = u then p.2 else look r u).filter _
      rw [if_pos e, if_pos e]
      rfl
    · have e2 : look (p :: r) u = look r u := by
        show (if p.1 = u then p.2 else look r u) = _
        rw [if_neg e]
      rw [e2, ← ih]
      unfold insG
      rw [List.filter_cons]
      by_cases hp : hasN ps n p.1 = true
      · rw [if_pos hp, List.map_cons]
        show (if p.1 = u then _ else _) = _
        rw [if_neg e]
      · rw [if_neg hp]
theorem ins_look0 (ps : List (Nd × V)) (n : Int) : ∀ (g : Gph) (u : Nd), ¬ hasN ps n u = true → look (insG ps n g) u = []
  | [], u, _ => rfl
  | p :: r, u, h => by
    have ih := ins_look0 ps n r u h
    unfold insG
    rw [List.filter_cons]
    by_cases hp : hasN ps n p.1 = true
    · have e : ¬ p.1 = u := fun e => h (e ▸ hp)
      rw [if_pos hp, List.map_cons]
      show (if p.1 = u then _ else _) = _
      rw [if_neg e]
      exact ih
    · rw [if_neg hp]
      exact ih
theorem ins_ok {g : Gph} (ps : List (Nd × V)) (n : Int) (ok : GOk' g) : GOk' (insG ps n g) := by
  refine ⟨by rw [ins_keys]; exact ok.nd.filter _, fun u hu e he => ?_, ?_, fun u => ?_⟩
  · rw [ins_keys] at hu ⊢
    obtain ⟨h1, h2⟩ := List.mem_filter.mp hu
    rw [ins_look ps n g u h2] at he
    obtain ⟨h3, h4⟩ := List.mem_filter.mp he
    exact List.mem_filter.mpr ⟨ok.clo u h1 e h3, h4⟩
  · unfold insG
    rw [List.length_map]
    exact Nat.le_trans (List.length_filter_le _ _) ok.len
  · by_cases h : hasN ps n u = true
    · rw [ins_look ps n g u h]
      exact Nat.le_trans (List.length_filter_le _ _) (ok.deg u)
    · rw [ins_look0 ps n g u h]
      exact Nat.zero_le _
theorem ins_wk {g : Gph} {ps : List (Nd × V)} {n : Int} {u v : Nd} {ts : List Tag} (h : Wk (insG ps n g) u ts v) : Wk g u ts v := by
  induction h with
  | nil u => exact .nil u
  | @cons u v w t ts he _ ih =>
    refine .cons ?_ ih
    by_cases h : hasN ps n u = true
    · rw [ins_look ps n g u h] at he
      exact (List.mem_filter.mp he).1
    · rw [ins_look0 ps n g u h] at he
      cases he
theorem ins_reach {g : Gph} {ps : List (Nd × V)} {n : Int} (ok : GOk' g) (P : PartOk g ps) {u v : Nd} (h : Reach (outs g) u v) : u ∈ gkeys g → valV ps u = some (.int n) → Reach (outs g) v u → Reach (outs (insG ps n g)) u v := by
  induction h with
  | refl u => exact fun _ _ _ => .refl u
  | @step u w v hw h ih =>
    intro hu pu back
    have hwk : w ∈ gkeys g := by
      obtain ⟨e, he, rfl⟩ := List.mem_map.mp hw
      exact ok.clo u hu e he
    have s : Sim (outs g) u w := ⟨.one hw, h.trans back⟩
    have pw : valV ps w = some (.int n) := by rw [← (P.2 u hu w hwk).mpr s]; exact pu
    refine .step ?_ (ih hwk pw (back.snoc hw))
    unfold outs
    rw [ins_look ps n g u (by unfold hasN; rw [pu]; simp)]
    obtain ⟨e, he, e2⟩ := List.mem_map.mp hw
    refine List.mem_map.mpr ⟨e, List.mem_filter.mpr ⟨he, ?_⟩, e2⟩
    unfold hasN
    rw [e2, pw]
    simp
theorem look_at : ∀ (g : Gph) (i : Nat) (ne : Nd × List Edge), (gkeys g).Nodup → g[i]? = some ne → look g ne.1 = ne.2
  | [], i, ne, _, h => by simp at h
  | p :: r, 0, ne, _, h => by
    have := Option.some.inj h
    subst this
    unfold look
    rw [if_pos rfl]
  | p :: r, i + 1, ne, nd, h => by
    have nd2 := List.nodup_cons.mp nd
    have h2 : r[i]? = some ne := h
    have : ¬ p.1 = ne.1 := fun e => nd2.1 (by show p.1 ∈ _; rw [e]; exact List.mem_map.mpr ⟨ne, List.mem_of_getElem? h2, rfl⟩)
    unfold look
    rw [if_neg this]
    exact look_at r i ne nd2.2 h2
theorem fresh_key {g : Gph} {i : Nat} {ne : Nd × List Edge} (nd : (gkeys g).Nodup) (h : g[i]? = some ne) : ne.1 ∉ gkeys (g.take i) := by
  intro hm
  have e1 : gkeys g = gkeys (g.take i) ++ gkeys (g.drop i) := by
    unfold gkeys
    rw [← List.map_append, List.take_append_drop]
  rw [e1] at nd
  have kd : ne.1 ∈ gkeys (g.drop i) := by
    refine List.mem_map.mpr ⟨ne, List.mem_iff_getElem?.mpr ⟨0, ?_⟩, rfl⟩
    rw [List.getElem?_drop]
    exact h
  exact (List.nodup_append.mp nd).2.2 _ hm _ kd rfl
section
variable {P : Program} {w : World} {K : PySem.W.Frag} {mg : Str → Option Value} {base : Heap}
theorem sc_closed_walk : FnScope ["edges", "part", "chosen", "begin", "number", "inside", "node", "tags", "place", "source", "tag", "target"] ["edges", "part", "chosen"] (defScope s_g_closed_walk) := ⟨rfl, rfl, rfl, by decide +kernel, rfl, by decide +kernel, by decide +kernel⟩
theorem ok_closed_walk (T : Tp K mg) (G_path_between : GOk P w K mg base "path_between" 1 ["edges", "begin", "end"] sp_path_between) : GOk P w K mg base "closed_walk" 2 ["edges", "part", "chosen"] sp_closed_walk := by
  refine gok_of (st := s_g_closed_walk) T.fd_g_closed_walk T.g_closed_walk sc_closed_walk (fun _ _ _ _ _ _ us hl => match us, hl with | [_, _, _], _ => rfl) (fun vs H Q E h => ?_) (fun cdv A outer s H vs Q E hr h => ?_)
  · obtain ⟨d, pd, ch, kvs, g, ps, cvs, cs, n, rfl, _⟩ := h
    rfl
  · obtain ⟨d, pd, ch, kvs, g, ps, cvs, cs, n, rfl, GA, ok, hpd, PO, hch, pch, cne, c3, cok, k⟩ := h
    have hu := hu_of hr
    refine ⟨_, (pss_cons (ps_set (i := 3) sc_closed_walk.nd rfl (by first | exact Or.inl rfl | exact Or.inr rfl) (pe_ix (ix_tupK K) (pe_ix (ix_listK K) (pv 2) pe_int (fun _ _ => rfl)) pe_int (fun _ _ => rfl)))
      (pss_cons (ps_set (i := 4) sc_closed_walk.nd rfl (by first | exact Or.inl rfl | exact Or.inr rfl) (pe_dget hu (pv 1) (pv 3) (fun _ _ => rfl)))
      (pss_cons (ps_set (i := 5) sc_closed_walk.nd rfl (by first | exact Or.inl rfl | exact Or.inr rfl) pe_dnewT)
      (pss_cons (ps_lock (ps_for PassesOwn.never rfl (pi_keys (pv 0)) (pg_name (i := 6) sc_closed_walk.nd rfl (by first | exact Or.inl rfl | exact Or.inr rfl)) (pss_one (ps_if (pt_cmpR op_eq (pe_dget hu (pv 1) (pv 6) (fun _ _ => rfl)) (pv 4) (nomark _)) (pss_one (ps_dput hu (pv 5) (pv 6) (pe_lc (own := [("tag", 10), ("target", 11)]) (by rfl) sc_closed_walk.nd (pi_list (pe_dget hu (pv 0) (pv 6) (fun _ _ => rfl))) (blkOk_by (own := [("tag", 10), ("target", 11)]) (N := ["edges", "part", "chosen", "begin", "number", "inside", "node", "tags", "place", "source", "tag", "target"]) (sc := defScope s_g_closed_walk) (by decide +kernel)) (fun _ _ _ _ _ => (pg_tupK K (n := 2) (by rfl) (pgs_cons (pg_name (i := 10) sc_closed_walk.nd rfl (by first | exact Or.inl rfl | exact Or.inr rfl)) (pgs_cons (pg_name (i := 11) sc_closed_walk.nd rfl (by first | exact Or.inl rfl | exact Or.inr rfl)) pgs_nil)))) (fun _ _ _ _ _ => (pts_one (pt_cmpR op_eq (pe_dget hu (pv 1) (pv 11) (fun _ _ => rfl)) (pv 4) (nomark _)))) (fun _ _ _ _ _ => (pe_tup (pa_cons (pv 10) (pa_cons (pv 11) pa_nil))))) rfl)) pss_nil))))
      (pss_cons (ps_par (i := 7) (j := 8) (by rfl) sc_closed_walk.nd rfl rfl (by decide) rfl rfl (pa_cons (pe_lst pa_nil) (pa_cons (pv 3) pa_nil)) (by rfl))
      (pss_cons (ps_for PassesOwn.never rfl (pi_list (pv 2)) (pg_tupK K (n := 3) (by rfl) (pgs_cons (pg_name (i := 9) sc_closed_walk.nd rfl (by first | exact Or.inl rfl | exact Or.inr rfl)) (pgs_cons (pg_name (i := 10) sc_closed_walk.nd rfl (by first | exact Or.inl rfl | exact Or.inr rfl)) (pgs_cons (pg_name (i := 11) sc_closed_walk.nd rfl (by first | exact Or.inl rfl | exact Or.inr rfl)) pgs_nil)))) (pss_cons (ps_set (i := 7) sc_closed_walk.nd rfl (by first | exact Or.inl rfl | exact Or.inr rfl) (pe_op op_cat (pe_op op_cat (pv 7) (pe_g G_path_between (hr.mono (by decide)) (pa_cons (pv 5) (pa_cons (pv 8) (pa_cons (pv 9) pa_nil))))) (pe_lst (pa_cons (pv 10) pa_nil))))
      (pss_one (ps_set (i := 8) sc_closed_walk.nd rfl (by first | exact Or.inl rfl | exact Or.inr rfl) (pv 11)))))
      (pss_one (ps_ret (pe_tup (pa_cons (pv 3) (pa_cons (pe_op op_cat (pv 7) (pe_g G_path_between (hr.mono (by decide)) (pa_cons (pv 5) (pa_cons (pv 8) (pa_cons (pv 3) pa_nil))))) pa_nil))))))))))), ?_⟩
    have lens : kvs.length = g.length := paired_len GA.ents
    have lsz : ∀ {x : Nat}, x ≤ 100000 → x < sizeLine := fun {x} hx => by
      rw [sizeLine_eq]
      omega
    cases cs with
    | nil => exact absurd rfl cne
    | cons c0 cs =>
    cases pch with
    | @cons cv _ cvs _ hc0 pch =>
    obtain ⟨q0, a0, b0, e0, rfl, hq0, ha0, hb0, he0⟩ := hc0
    have C0 := cok c0 List.mem_cons_self
    refine ⟨_, rfl, ch, _, _, _, rfl, rfl, SqL.of hch, atI_nat (j := 0) rfl, q0, _, _, V.ref a0, rfl, rfl, SqT.of hq0, rfl, ?_⟩
    refine ⟨_, rfl, _, rfl, pd, _, rfl, .inr ⟨ps, c0.1, a0, .inl hpd, rfl, ha0, C0.p1.symm⟩, ?_⟩
    intro fd hfd
    have ndf : d ≠ fd := ne_of_none GA.dict hfd
    have npf : pd ≠ fd := ne_of_none hpd hfd
    have hd1 : (upd H fd (.dT [])) d = some (.dT kvs) := by rw [upd_ne ndf]; exact GA.dict
    refine ⟨d, _, hd1, trivial, fun ob => ?_⟩
    obtain ⟨B, eB⟩ : ∃ B, B = upd H d (.frz ob (.dT kvs)) := ⟨_, rfl⟩
    have hBd : B d = some (.frz ob (.dT kvs)) := by rw [eB]; exact upd_same
    have nBf : B fd = none := by rw [eB, upd_ne ndf.symm]; exact hfd
    have tsB : TSame H B := by
      rw [eB]
      exact tsame_lock GA.dict (fun _ e => nomatch e)
    have entB : ∀ u ∈ gkeys g, ∃ l ws, valV kvs u = some (.ref l) ∧ B l = some (.lst ws) ∧ Paired (EdgeV B) ws (look g u) := fun u hu => by
      obtain ⟨l, ws, e1, e2, e3⟩ := ents_val GA.ents hu
      refine ⟨l, ws, e1, ?_, paired_imp e3 fun _ _ r => r.mono tsB⟩
      rw [eB, upd_ne (ne_of e2 GA.dict (fun e => nomatch e))]
      exact e2
    have getP : ∀ {H' : Hp} {a : Addr} {u : Nd} {m : Int}, Same B H' → H' a = some (.tup (u.map kV)) → valV ps u = some (.int m) → DGet H' pd (.ref a) (some (.int m)) := fun {H' a u m} s ha hv => by
      by_cases e : pd = d
      · refine .inr ⟨kvs, u, a, .inr ⟨ob, by rw [e]; exact s _ _ hBd⟩, rfl, ha, ?_⟩
        have : ps = kvs := by
          have h1 := GA.dict
          rw [← e, hpd] at h1
          cases h1
          rfl
        rw [← this]
        exact hv.symm
      · exact .inr ⟨ps, u, a, .inl (s _ _ (by rw [eB, upd_ne e]; exact hpd)), rfl, ha, hv.symm⟩
    refine ⟨_, rfl, d, ob, rfl, .inr ⟨kvs, upd_same, ?_⟩⟩
    refine for_it walk_keysT (fun i σ H' => ∃ r6 r7 r8 r9 r10 r11 fs, σ = [some (V.ref d), some (V.ref pd), some (V.ref ch), some (V.ref a0), some (V.int n), some (V.ref fd), r6, r7, r8, r9, r10, r11] ∧ Same B H' ∧ H' fd = some (.dT fs) ∧ Paired (EntV H') fs (insG ps n (g.take i))) ?_ ?_ ?_ ?_
    · refine ⟨none, none, none, none, none, none, [], rfl, fun x o e => ?_, ?_, .nil⟩
      · rw [eB] at e
        by_cases q : x = d
        · subst q
          rw [upd_same] at e ⊢
          exact e
        · rw [upd_ne q] at e ⊢
          rw [upd_ne (ne_of_none e hfd)]
          exact e
      · rw [upd_ne ndf.symm, upd_same]
    · rintro i σ H' _ ⟨_, _, _, _, _, _, _, _, S, _⟩
      exact S _ _ hBd
    · rintro i x σ H1 H2 hi ⟨r6, r7, r8, r9, r10, r11, fs, rfl, S1, hf1, pf1⟩ ⟨rfl, ku, vu, qa, hix, rfl, hq⟩
      obtain ⟨ne, hne, ent⟩ := paired_get GA.ents hix
      have eku : ku = ne.1 := ent.1
      subst eku
      have kin : (gkeys g)[i]? = some ne.1 := by
        unfold gkeys
        rw [List.getElem?_map, hne]
        rfl
      have kmem := List.mem_of_getElem? kin
      obtain ⟨l, ws, w1, w2, w3⟩ := entB ne.1 kmem
      have elook := look_at g i ne ok.nd hne
      have wl10 := ok.deg ne.1
      obtain ⟨m, hm⟩ := PO.1 ne.1 kmem
      have tk : g.take (i + 1) = g.take i ++ [ne] := by rw [List.take_add_one, hne]; rfl
      refine ⟨_, rfl, _, rfl, pd, _, rfl, getP S1 hq hm, _, rfl, rfl, _, rfl, ?_⟩
      refine ite2 (fun hc => ?_) (fun hc => ?_)
      · have emn : m = n := V.int.inj (of_decide_eq_true hc)
        subst emn
        have hh : hasN ps m ne.1 = true := by unfold hasN; rw [hm]; simp
        have tS1 := TSame.of S1
        dsimp only [gName, sDPut]
        refine lc_edges (l := l) (es := look g ne.1) (fun e => hasN ps m e.2) (fun R r => ⟨_, rfl, _, rfl, d, _, rfl, .inr ⟨kvs, ne.1, qa, .inr ⟨ob, S1 _ _ hBd⟩, rfl, hq, w1.symm⟩, r⟩) (S1 _ _ w2) (paired_imp w3 fun _ _ r => r.mono tS1) (by omega) (fun _ _ => rfl) (fun _ _ => rfl) (fun _ _ => rfl) ?_ ?_
        · intro H' ta ka e R s' he hta hka hR
          obtain ⟨m2, hm2⟩ := PO.1 e.2 (ok.clo _ kmem e he)
          refine ⟨_, rfl, _, rfl, pd, _, rfl, getP (S1.trans s') hka hm2, _, rfl, rfl, _, rfl, ?_⟩
          have e3 : hasN ps m e.2 = decide (V.int m2 = V.int m) := by
            unfold hasN
            rw [hm2]
            by_cases z : m2 = m
            · rw [z]
              simp
            · rw [decide_eq_false (fun w => z (V.int.inj (Option.some.inj w))), decide_eq_false (fun w => z (V.int.inj w))]
          rw [← e3]
          exact hR
        · intro D H' vs s' hD hv pv
          have lf := paired_len pf1
          have lb : (insG ps m (g.take i)).length ≤ 60 := by
            unfold insG
            rw [List.length_map]
            refine Nat.le_trans (List.length_filter_le _ _) ?_
            rw [List.length_take]
            have := ok.len
            omega
          refine ⟨_, rfl, _, rfl, fd, _, rfl, DPut.t (s' _ _ hf1) (s' _ _ hq) (lsz (by omega)), ?_⟩
          have nk : valV fs ne.1 = none := by
            have h1 := ents_keys pf1
            rw [ins_keys] at h1
            have : ¬ (valV fs ne.1).isSome = true := fun z => by
              have h2 := valV_mem.mp z
              rw [h1] at h2
              exact fresh_key ok.nd hne (List.mem_filter.mp h2).1
            simpa using this
          rw [putK_new _ nk]
          have sx : SameX fd H' (upd H' fd (.dT (fs ++ [(ne.1, V.ref D)]))) := (SameX.refl _ _).put
          have tx := sx.ts (s' _ _ hf1) fun _ e => nomatch e
          refine ⟨_, _, _, _, _, _, _, rfl, same_mut (S1.trans s') nBf, upd_same, ?_⟩
          have be : insG ps m (g.take (i + 1)) = insG ps m (g.take i) ++ [insE ps m ne] := by
            rw [tk]
            unfold insG
            rw [List.filter_append, List.map_append, List.filter_cons, if_pos hh]
            rfl
          rw [be]
          refine paired_app (paired_imp pf1 fun _ _ r => (r.mono s').monoX sx (s' _ _ hf1) (fun _ e => nomatch e) (fun _ e => nomatch e)) (.cons ⟨rfl, D, vs, rfl, ?_, ?_⟩ .nil)
          · rw [upd_ne (ne_of hv (s' _ _ hf1) (fun e => nomatch e))]
            exact hv
          · show Paired _ vs (ne.2.filter fun e => hasN ps m e.2)
            rw [← elook]
            exact paired_imp pv fun _ _ r => r.mono tx
      · have hh : ¬ hasN ps n ne.1 = true := by
          unfold hasN
          rw [hm]
          intro z
          exact hc (by rw [Option.some.inj (of_decide_eq_true z)]; simp)
        refine ⟨_, _, _, _, _, _, fs, rfl, S1, hf1, ?_⟩
        have be : insG ps n (g.take (i + 1)) = insG ps n (g.take i) := by
          rw [tk]
          unfold insG
          rw [List.filter_append, List.filter_cons, if_neg hh]
          simp
        rw [be]
        exact pf1
    · rintro σ H1 ⟨r6, r7, r8, r9, r10, r11, fs, rfl, S1, hf1, pf1⟩
      refine ⟨S1 _ _ hBd, ?_⟩
      have hd' := S1 _ _ hBd
      rw [eB] at S1
      have e : g.take kvs.length = g := List.take_of_length_le (by rw [lens]; exact Nat.le_refl _)
      rw [e] at pf1
      have sx : SameX d H1 (upd H1 d (.dT kvs)) := (SameX.refl _ _).put
      have S2 := same_unlock GA.dict S1
      have GI : GphAt (upd H1 d (.dT kvs)) fd fs (insG ps n g) := ⟨by rw [upd_ne ndf.symm]; exact hf1, paired_imp pf1 fun _ _ r => r.monoX sx hd' (fun _ e => nomatch e) (fun _ e => nomatch e)⟩
      generalize upd H1 d (.dT kvs) = H2 at S2 GI ⊢
      clear S1 pf1 hf1 sx hd'
      have OI := ins_ok ps n ok
      have inK : ∀ {u : Nd}, u ∈ gkeys g → valV ps u = some (.int n) → u ∈ gkeys (insG ps n g) := fun {u} h1 h2 => by
        rw [ins_keys]
        exact List.mem_filter.mpr ⟨h1, by unfold hasN; rw [h2]; simp⟩
      have way : ∀ {u v : Nd}, u ∈ gkeys g → valV ps u = some (.int n) → v ∈ gkeys g → valV ps v = some (.int n) → Reach (outs (insG ps n g)) u v := fun {u v} h1 h2 h3 h4 => by
        have s := (PO.2 u h1 v h3).mp (by rw [h2, h4])
        exact ins_reach ok PO s.1 h1 h2 s.2
      have cedge : ∀ c ∈ c0 :: cs, c.2.2 ∈ gkeys g := fun c hc => ok.clo _ (cok c hc).key _ (cok c hc).edge
      have pall : Paired (ChV H) (V.ref q0 :: cvs) (c0 :: cs) := .cons ⟨q0, a0, b0, e0, rfl, hq0, ha0, hb0, he0⟩ pch
      refine ⟨Nat.zero_le _, fun t0 ht0 => ⟨_, rfl, _, _, rfl, ?_⟩⟩
      have s3 := same_new (o := .lst []) ht0
      have ht3 : (upd H2 t0 (.lst [])) t0 = some (.lst []) := upd_same
      have S3 := S2.trans s3
      have GI3 := GI.mono s3
      generalize upd H2 t0 (.lst []) = H3 at s3 ht3 S3 GI3 ⊢
      refine ⟨_, rfl, ch, rfl, ⟨_, SqL.of (S3 _ _ hch)⟩, ?_⟩
      refine for_it (walk_list (xs := V.ref q0 :: cvs)) (fun i σ H' => ∃ r6 r9 r10 r11 tg pl tvs ts pn, σ = [some (V.ref d), some (V.ref pd), some (V.ref ch), some (V.ref a0), some (V.int n), some (V.ref fd), r6, some (V.ref tg), some (V.ref pl), r9, r10, r11] ∧ Same H3 H' ∧ H' tg = some (.lst tvs) ∧ Paired (TagV H') tvs ts ∧
        H' pl = some (.tup (pn.map kV)) ∧ pn ∈ gkeys g ∧ valV ps pn = some (.int n) ∧ Wk g c0.1 ts pn ∧ (∀ c ∈ (c0 :: cs).take i, c.2.1 ∈ ts) ∧ ts.length ≤ 61 * i ∧ (0 < i → ts ≠ [])) ?_ ?_ ?_ ?_
      · exact ⟨_, _, _, _, t0, a0, [], [], c0.1, rfl, Same.refl _, ht3, .nil, S3 _ _ ha0, C0.key, C0.p1, .nil _, fun c hc => by simp at hc, by simp, fun h => absurd h (Nat.lt_irrefl 0)⟩
      · rintro i σ H' _ ⟨_, _, _, _, _, _, _, _, _, _, S', _⟩
        exact SqL.of (S' _ _ (S3 _ _ hch))
      · rintro i x σ H4 H5 hi ⟨r6, r9, r10, r11, tg, pl, tvs, ts, pn, rfl, S4, ht4, pt4, hpl, pnk, pnn, wk4, all4, len4, ne4⟩ ⟨rfl, hxi⟩
        obtain ⟨c, hci, hcv⟩ := paired_get pall hxi
        obtain ⟨q, a, b, e, rfl, hq, ha, hb, he⟩ := hcv
        have cmem := List.mem_of_getElem? hci
        have cO := cok c cmem
        have tS := (TSame.of S3).trans (.of S4)
        have i3 : i < 3 := by
          have h1 := (List.getElem?_eq_some_iff.mp hci).1
          omega
        refine ⟨q, _, rfl, SqT.of (tS _ _ hq), rfl, _, _, rfl, _, _, rfl, _, _, rfl, rfl, ?_⟩
        refine ⟨_, rfl, _, rfl, _, rfl, _, rfl, fd, pl, a, fs, insG ps n g, pn, c.1, rfl, GI3.mono S4, OI, hpl, tS _ _ ha, inK pnk pnn, way pnk pnn cO.key cO.p1, fun l H6 pvs pts s6 nl hl6 pt6 wk6 len6 => ?_⟩
        have l1 := paired_len pt4
        have l2 := paired_len pt6
        refine ⟨tg, l, _, _, rfl, rfl, s6 _ _ ht4, hl6, Nat.le_of_lt (lsz (by omega)), fun p hp => ⟨_, rfl, (by show 1 ≤ sizeLine; decide), fun q2 hq2 => ⟨p, q2, _, _, rfl, rfl, by rw [upd_ne (ne_of_none upd_same hq2)]; exact upd_same, upd_same, Nat.le_of_lt (lsz (by rw [List.length_append]; simp only [List.length_singleton]; omega)), fun p3 hp3 => ?_⟩⟩⟩
        have sA := (same_new (o := .lst (tvs ++ pvs)) hp).trans ((same_new (o := .lst [V.ref b]) hq2).trans (same_new (o := .lst (tvs ++ pvs ++ [V.ref b])) hp3))
        have s46 := s6.trans sA
        have tA := TSame.of s46
        refine ⟨_, rfl, ?_⟩
        refine ⟨_, _, _, _, p3, e, tvs ++ pvs ++ [V.ref b], ts ++ pts ++ [c.2.1], c.2.2, rfl, S4.trans s46, upd_same, ?_, tA _ _ (tS _ _ he), cedge c cmem, cO.p2, ?_, fun c' hc' => ?_, ?_, fun _ => by simp⟩
        · refine paired_app (paired_app (paired_imp pt4 fun _ _ r => r.mono tA) (paired_imp pt6 fun _ _ r => r.mono (.of sA))) (.cons ⟨b, rfl, tA _ _ (tS _ _ hb)⟩ .nil)
        · exact (wk4.append (ins_wk wk6)).append (.one cO.edge)
        · have tk : (c0 :: cs).take (i + 1) = (c0 :: cs).take i ++ [c] := by rw [List.take_add_one, hci]; rfl
          rw [tk] at hc'
          rcases List.mem_append.mp hc' with z | z
          · exact List.mem_append_left _ (List.mem_append_left _ (all4 c' z))
          · have : c' = c := by simpa using z
            subst this
            simp
        · rw [List.length_append, List.length_append, List.length_singleton]
          omega
      · rintro σ H4 ⟨r6, r9, r10, r11, tg, pl, tvs, ts, pn, rfl, S4, ht4, pt4, hpl, pnk, pnn, wk4, all4, len4, ne4⟩
        have tS := (TSame.of S3).trans (.of S4)
        have lc := paired_len pall
        have l3 : (V.ref q0 :: cvs).length ≤ 3 := by rw [lc]; exact c3
        refine ⟨_, rfl, _, rfl, _, rfl, _, rfl, _, rfl, fd, pl, a0, fs, insG ps n g, pn, c0.1, rfl, GI3.mono S4, OI, hpl, tS _ _ ha0, inK pnk pnn, way pnk pnn C0.key C0.p1, fun l H6 pvs pts s6 nl hl6 pt6 wk6 len6 => ?_⟩
        have l1 := paired_len pt4
        have l2 := paired_len pt6
        refine ⟨tg, l, _, _, rfl, rfl, s6 _ _ ht4, hl6, Nat.le_of_lt (lsz (by omega)), fun p hp => ⟨(by show 2 ≤ sizeLine; decide), fun r hr => ?_⟩⟩
        have sA := (same_new (o := .lst (tvs ++ pvs)) hp).trans (same_new (o := .tup [V.ref a0, V.ref p]) hr)
        have s46 := s6.trans sA
        have tA := TSame.of s46
        refine k (.ref r) _ c0.1 (ts ++ pts) ((S3.trans S4).trans s46) ⟨r, a0, p, tvs ++ pvs, rfl, upd_same, tA _ _ (tS _ _ ha0), ?_, ?_⟩ (wk4.append (ins_wk wk6)) (fun c hc => List.mem_append_left _ (all4 c ?_)) ?_ ?_ C0.key
        · rw [upd_ne (ne_of_none upd_same hr)]
          exact upd_same
        · exact paired_app (paired_imp pt4 fun _ _ r => r.mono tA) (paired_imp pt6 fun _ _ r => r.mono (.of sA))
        · rw [List.take_of_length_le (by rw [lc]; exact Nat.le_refl _)]
          exact hc
        · intro z
          exact ne4 (by simp) (List.append_eq_nil_iff.mp z).1
        · rw [List.length_append]
          omega
end
end K42
set_option Elab.async false
set_option linter.all false
set_option maxRecDepth 100000
set_option maxHeartbeats 4000000
namespace K42
open PySem PySem.Spec PyProof.Rows L2

structure RowsOk (g : Gph) (ps : List (Nd × V)) (os : List (Option (Int × Int))) (n : Int) (rs : List (Key × V)) (H : Hp) : Prop where
  nd : (rs.map (·.1)).Nodup
  row : ∀ p ∈ rs, ∃ (j : Nat) (c : Ch) (o : Option (Int × Int)), p.1 = Sum.inl (j : Int) ∧ os[j]? = some o ∧ passB c.2.1 o = true ∧ ChV H p.2 c ∧ ChOk g ps n c
theorem RowsOk.mono {g : Gph} {ps : List (Nd × V)} {os : List (Option (Int × Int))} {n : Int} {rs : List (Key × V)} {H H' : Hp} (t : TSame H H') (h : RowsOk g ps os n rs H) : RowsOk g ps os n rs H' :=
  ⟨h.nd, fun p hp => let ⟨j, c, o, h1, h2, h3, h4, h5⟩ := h.row p hp; ⟨j, c, o, h1, h2, h3, h4.mono t, h5⟩⟩
theorem RowsOk.full {g : Gph} {ps : List (Nd × V)} {os : List (Option (Int × Int))} {n : Int} {rs : List (Key × V)} {H : Hp} (h : RowsOk g ps os n rs H) (hl : rs.length = os.length) {j : Nat} (hj : j < os.length) :
    ∃ v c o, valV rs (Sum.inl (j : Int) : Key) = some v ∧ os[j]? = some o ∧ passB c.2.1 o = true ∧ ChV H v c ∧ ChOk g ps n c := by
  by_cases hin : (Sum.inl (j : Int) : Key) ∈ rs.map (·.1)
  · obtain ⟨p, hp, e⟩ := List.mem_map.mp hin
    obtain ⟨j', c, o, h1, h2, h3, h4, h5⟩ := h.row p hp
    have ej : j' = j := by
      have := h1.symm.trans e
      have := Sum.inl.inj this
      omega
    subst ej
    obtain ⟨i, hi⟩ := List.mem_iff_getElem?.mp hp
    exact ⟨p.2, c, o, valV_at h.nd (by rw [hi, ← h1]), h2, h3, h4, h5⟩
  · exfalso
    have sub : rs.map (·.1) ⊆ ((List.range os.length).erase j).map fun (k : Nat) => (Sum.inl (k : Int) : Key) := by
      intro k hk
      obtain ⟨p, hp, e⟩ := List.mem_map.mp hk
      obtain ⟨j', c, o, h1, h2, _⟩ := h.row p hp
      have lt := (List.getElem?_eq_some_iff.mp h2).1
      refine List.mem_map.mpr ⟨j', ?_, by rw [← e, h1]⟩
      refine (List.mem_erase_of_ne ?_).mpr (List.mem_range.mpr lt)
      intro q
      exact hin (by rw [← q, ← h1]; exact List.mem_map.mpr ⟨p, hp, rfl⟩)
    have le := h.nd.length_le_of_subset sub
    rw [List.length_map, List.length_map, List.length_erase_of_mem (List.mem_range.mpr hj), List.length_range] at le
    omega
structure FdS (B : Hp) (fd : Addr) (g : Gph) (ps : List (Nd × V)) (os : List (Option (Int × Int))) (fs : List (Key × V)) (H : Hp) : Prop where
  same : Same B H
  nf : B fd = none
  hf : H fd = some (.dK fs)
  keys : ∀ p ∈ fs, ∃ n : Int, p.1 = Sum.inl n ∧ ∃ u ∈ gkeys g, valV ps u = some (.int n)
  nd : (fs.map (·.1)).Nodup
  at_ : ∀ (n : Int) r, valV fs (Sum.inl n : Key) = some r → ∃ ra rs, r = V.ref ra ∧ H ra = some (.dK rs) ∧ B ra = none ∧ ra ≠ fd ∧ RowsOk g ps os n rs H
  inj : ∀ (n m : Int) ra, valV fs (Sum.inl n : Key) = some (.ref ra) → valV fs (Sum.inl m : Key) = some (.ref ra) → n = m
theorem FdS.ext {B : Hp} {fd : Addr} {g : Gph} {ps : List (Nd × V)} {os : List (Option (Int × Int))} {fs : List (Key × V)} {H H' : Hp} (S : FdS B fd g ps os fs H) (s : Same H H') : FdS B fd g ps os fs H' :=
  ⟨S.same.trans s, S.nf, s _ _ S.hf, S.keys, S.nd, fun n r e => let ⟨ra, rs, h1, h2, h3, h4, h5⟩ := S.at_ n r e; ⟨ra, rs, h1, s _ _ h2, h3, h4, h5.mono (.of s)⟩, S.inj⟩
theorem FdS.rowput {B : Hp} {fd ra : Addr} {g : Gph} {ps : List (Nd × V)} {os : List (Option (Int × Int))} {fs : List (Key × V)} {rs rs' : List (Key × V)} {H : Hp} {n : Int} (S : FdS B fd g ps os fs H) (hv : valV fs (Sum.inl n : Key) = some (.ref ra)) (hr : H ra = some (.dK rs))
    (ok : RowsOk g ps os n rs' (upd H ra (.dK rs'))) : FdS B fd g ps os fs (upd H ra (.dK rs')) := by
  obtain ⟨ra', rs0, e1, e2, e3, e4, e5⟩ := S.at_ n _ hv
  cases e1
  have t : TSame H (upd H ra (.dK rs')) := (TSame.refl _).mut hr fun _ e => nomatch e
  refine ⟨same_mut S.same e3, S.nf, by rw [upd_ne e4.symm]; exact S.hf, S.keys, S.nd, fun m r hm => ?_, S.inj⟩
  obtain ⟨rb, rs1, f1, f2, f3, f4, f5⟩ := S.at_ m r hm
  subst f1
  by_cases q : rb = ra
  · subst q
    have := S.inj m n rb hm hv
    subst this
    exact ⟨rb, rs', rfl, upd_same, f3, f4, ok⟩
  · exact ⟨rb, rs1, rfl, by rw [upd_ne q]; exact f2, f3, f4, f5.mono t⟩
theorem FdS.unlock {H H' : Hp} {d fd : Addr} {ob : Obj} {kvs : List (Nd × V)} {g : Gph} {ps : List (Nd × V)} {os : List (Option (Int × Int))} {fs : List (Key × V)} (h : H d = some (.dT kvs)) (S : FdS (upd H d (.frz ob (.dT kvs))) fd g ps os fs H') : FdS H fd g ps os fs (upd H' d (.dT kvs)) := by
  have fr : ∀ a, (upd H d (.frz ob (.dT kvs))) a = none → a ≠ d ∧ H a = none := fun a e => by
    have n : a ≠ d := fun q => by
      rw [q, upd_same] at e
      cases e
    rw [upd_ne n] at e
    exact ⟨n, e⟩
  have hd' : H' d = some (.frz ob (.dT kvs)) := S.same _ _ upd_same
  have t : TSame H' (upd H' d (.dT kvs)) := (TSame.refl H').mut hd' fun _ e => nomatch e
  refine ⟨same_unlock h S.same, (fr _ S.nf).2, by rw [upd_ne (fr _ S.nf).1]; exact S.hf, S.keys, S.nd, fun n r e => ?_, S.inj⟩
  obtain ⟨ra, rs, h1, h2, h3, h4, h5⟩ := S.at_ n r e
  exact ⟨ra, rs, h1, by rw [upd_ne (fr _ h3).1]; exact h2, (fr _ h3).2, h4, h5.mono t⟩
theorem FdS.len {B : Hp} {fd : Addr} {g : Gph} {ps : List (Nd × V)} {os : List (Option (Int × Int))} {fs : List (Key × V)} {H : Hp} (S : FdS B fd g ps os fs H) : fs.length ≤ g.length := by
  have sub : fs.map (·.1) ⊆ (gkeys g).map fun u => (match valV ps u with | some (.int n) => (Sum.inl n : Key) | _ => Sum.inl 0) := by
    intro k hk
    obtain ⟨p, hp, e⟩ := List.mem_map.mp hk
    obtain ⟨n, h1, u, hu, h2⟩ := S.keys p hp
    refine List.mem_map.mpr ⟨u, hu, ?_⟩
    rw [h2, ← e, h1]
  have le := S.nd.length_le_of_subset sub
  rw [List.length_map, List.length_map] at le
  unfold gkeys at le
  rw [List.length_map] at le
  exact le
def sp_cycle_through : Sp := fun vs H Q _ => ∃ (d tl : Addr) (kvs : List (Nd × V)) (g : Gph) (tvs : List V) (os : List (Option (Int × Int))), vs = [.ref d, .ref tl] ∧ GphAt H d kvs g ∧ GOk' g ∧ H tl = some (.lst tvs) ∧ Paired (TestV H) tvs os ∧ os ≠ [] ∧ os.length ≤ 3 ∧ (∀ o ∈ os, TestOk o) ∧
  (∀ H', Same H H' → Q .non H') ∧ ∀ (v : V) (H' : Hp) (u : Nd) (ts : List Tag), Same H H' → WalkV H' v u ts → Wk g u ts u → (∀ o ∈ os, ∃ t ∈ ts, passB t o = true) → ts ≠ [] → ts.length ≤ 300 → u ∈ gkeys g → Q v H'
section
variable {P : Program} {w : World} {K : PySem.W.Frag} {mg : Str → Option Value} {base : Heap}
theorem sc_cycle_through : FnScope ["edges", "tests", "part", "found", "node", "tag", "target", "rows", "number", "test", "place"] ["edges", "tests"] (defScope s_g_cycle_through) := ⟨rfl, rfl, rfl, by decide +kernel, rfl, by decide +kernel, by decide +kernel⟩
theorem ok_cycle_through (T : Tp K mg) (G_strong_parts : GOk P w K mg base "strong_parts" 2 ["edges"] sp_strong_parts) (G_passes : GOk P w K mg base "passes" 1 ["tag", "test"] sp_passes) (G_closed_walk : GOk P w K mg base "closed_walk" 2 ["edges", "part", "chosen"] sp_closed_walk) : GOk P w K mg base "cycle_through" 3 ["edges", "tests"] sp_cycle_through := by
  refine gok_of (st := s_g_cycle_through) T.fd_g_cycle_through T.g_cycle_through sc_cycle_through (fun _ _ _ _ _ _ us hl => match us, hl with | [_, _], _ => rfl) (fun vs H Q E h => ?_) (fun cdv A outer s H vs Q E hr h => ?_)
  · obtain ⟨d, tl, kvs, g, tvs, os, rfl, _⟩ := h
    rfl
  · obtain ⟨d, tl, kvs, g, tvs, os, rfl, GA, ok, htl, pts, one, o3, ook, kn, kw⟩ := h
    have hu := hu_of hr
    refine ⟨_, (pss_cons (ps_asg (pe_tup (pa_cons (pe_g G_strong_parts (hr.mono (by decide)) (pa_cons (pv 0) pa_nil)) (pa_cons pe_dnewK pa_nil))) (pg_tupK K (n := 2) (by rfl) (pgs_cons (pg_name (i := 2) sc_cycle_through.nd rfl (by first | exact Or.inl rfl | exact Or.inr rfl)) (pgs_cons (pg_name (i := 3) sc_cycle_through.nd rfl (by first | exact Or.inl rfl | exact Or.inr rfl)) pgs_nil))))
      (pss_cons (ps_lock (ps_for PassesOwn.never rfl (pi_keys (pv 0)) (pg_name (i := 4) sc_cycle_through.nd rfl (by first | exact Or.inl rfl | exact Or.inr rfl)) (pss_one (ps_for PassesOwn.never rfl (pi_list (pe_dget hu (pv 0) (pv 4) (fun _ _ => rfl))) (pg_tupK K (n := 2) (by rfl) (pgs_cons (pg_name (i := 5) sc_cycle_through.nd rfl (by first | exact Or.inl rfl | exact Or.inr rfl)) (pgs_cons (pg_name (i := 6) sc_cycle_through.nd rfl (by first | exact Or.inl rfl | exact Or.inr rfl)) pgs_nil))) (pss_one (ps_if (pt_cmpR op_eq (pe_dget hu (pv 2) (pv 4) (fun _ _ => rfl)) (pe_dget hu (pv 2) (pv 6) (fun _ _ => rfl)) (nomark _)) (Evl.pss_cut (ps_set (i := 7) sc_cycle_through.nd rfl (by first | exact Or.inl rfl | exact Or.inr rfl) (pe_dsetd (pv 3) (pe_dget hu (pv 2) (pv 4) (fun _ _ => rfl)) pe_dnewK ⟨by rfl, by rfl, by rfl, by rfl⟩))
      (pss_one (ps_for PassesOwn.never rfl (pi_enum (by rfl) T.b_enumerate (pa_cons (pv 1) pa_nil)) (pg_tupK K (n := 2) (by rfl) (pgs_cons (pg_name (i := 8) sc_cycle_through.nd rfl (by first | exact Or.inl rfl | exact Or.inr rfl)) (pgs_cons (pg_name (i := 9) sc_cycle_through.nd rfl (by first | exact Or.inl rfl | exact Or.inr rfl)) pgs_nil))) (pss_one (ps_if (PW.pt (pw_and (pt_cmp (pc_dnotin hu (pv 8) (pv 7))) (pw_and1 (pt_val (pe_g G_passes (hr.mono (by decide)) (pa_cons (pv 5) (pa_cons (pv 9) pa_nil))))))) (pss_one (ps_dput hu (pv 7) (pv 8) (pe_tup (pa_cons (pv 4) (pa_cons (pv 5) (pa_cons (pv 6) pa_nil)))) rfl)) pss_nil))))) pss_nil))))))
      (pss_cons (ps_for PassesOwn.never rfl (pi_list (pe_callB (call_sortedDI rfl) (by rfl) T.b_sorted (by decide +kernel) (pa_cons (pv 3) pa_nil))) (pg_name (i := 8) sc_cycle_through.nd rfl (by first | exact Or.inl rfl | exact Or.inr rfl)) (pss_one (ps_if (pt_cmpR op_eq (pe_callB call_lenD (by rfl) T.b_len PySem.boot_len (pa_cons (pe_dget hu (pv 3) (pv 8) (fun _ _ => rfl)) pa_nil)) (pe_callB (len_seqK K) (by rfl) T.b_len PySem.boot_len (pa_cons (pv 1) pa_nil)) (nomark _)) (pss_one (ps_ret (pe_g G_closed_walk (hr.mono (by decide)) (pa_cons (pv 0) (pa_cons (pv 2) (pa_cons (pe_lc (own := [("place", 10)]) (by rfl) sc_cycle_through.nd (pi_range1 (by rfl) T.b_range (pa_cons (pe_callB (len_seqK K) (by rfl) T.b_len PySem.boot_len (pa_cons (pv 1) pa_nil)) pa_nil)) (blkOk_by (own := [("place", 10)]) (N := ["edges", "tests", "part", "found", "node", "tag", "target", "rows", "number", "test", "place"]) (sc := defScope s_g_cycle_through) (by decide +kernel)) (fun _ _ _ _ _ => (pg_name (i := 10) sc_cycle_through.nd rfl (by first | exact Or.inl rfl | exact Or.inr rfl))) (fun _ _ _ _ _ => pts_nil) (fun _ _ _ _ _ => (pe_dget hu (pe_dget hu (pv 3) (pv 8) (fun _ _ => rfl)) (pv 10) (fun _ _ => rfl)))) pa_nil)))))) pss_nil)))
      (pss_one (ps_ret pe_non))))), ?_⟩
    have lens : kvs.length = g.length := paired_len GA.ents
    have klen : (gkeys g).length = g.length := by unfold gkeys; rw [List.length_map]
    have g60 := ok.len
    have lsz : ∀ {x : Nat}, x ≤ 100000 → x < sizeLine := fun {x} hx => by
      rw [sizeLine_eq]
      omega
    refine ⟨_, rfl, d, kvs, g, rfl, GA, ok, fun pd H1 ps s1 npd hpd PO => fun fd hfd => ⟨(by show 2 ≤ sizeLine; decide), fun tp htp => ⟨tp, _, rfl, SqT.of upd_same, rfl, _, _, rfl, _, _, rfl, rfl, ?_⟩⟩⟩
    have sA := (same_new (o := .dK []) hfd).trans (same_new (o := .tup [V.ref pd, V.ref fd]) htp)
    have hfA : (upd (upd H1 fd (.dK [])) tp (.tup [V.ref pd, V.ref fd])) fd = some (.dK []) := by rw [upd_ne (ne_of_none upd_same htp)]; exact upd_same
    generalize upd (upd H1 fd (.dK [])) tp (.tup [V.ref pd, V.ref fd]) = H2 at sA hfA ⊢
    have nfd : fd ≠ pd := (ne_of_none hpd hfd).symm
    have ndf : d ≠ fd := ne_of_none (s1 _ _ GA.dict) hfd
    have ndp : d ≠ pd := ne_of_none GA.dict npd
    have s2 := s1.trans sA
    have hd2 := s2 _ _ GA.dict
    have G1 := GA.mono s1
    refine ⟨d, _, hd2, trivial, fun ob => ?_⟩
    obtain ⟨B, eB⟩ : ∃ B, B = upd H1 d (.frz ob (.dT kvs)) := ⟨_, rfl⟩
    have hBd : B d = some (.frz ob (.dT kvs)) := by rw [eB]; exact upd_same
    have hBp : B pd = some (.dT ps) := by rw [eB, upd_ne ndp.symm]; exact hpd
    have nBf : B fd = none := by rw [eB, upd_ne ndf.symm]; exact hfd
    have tsB : TSame H1 B := by
      rw [eB]
      exact tsame_lock G1.dict (fun _ e => nomatch e)
    have entB : ∀ u ∈ gkeys g, ∃ l ws, valV kvs u = some (.ref l) ∧ B l = some (.lst ws) ∧ Paired (EdgeV B) ws (look g u) := fun u hu => by
      obtain ⟨l, ws, e1, e2, e3⟩ := ents_val G1.ents hu
      refine ⟨l, ws, e1, ?_, paired_imp e3 fun _ _ r => r.mono tsB⟩
      rw [eB, upd_ne (ne_of e2 G1.dict (fun e => nomatch e))]
      exact e2
    have htB : B tl = some (.lst tvs) := by
      rw [eB, upd_ne (ne_of (s1 _ _ htl) G1.dict (fun e => nomatch e))]
      exact s1 _ _ htl
    have ptB : Paired (TestV B) tvs os := paired_imp pts fun _ _ r => r.mono ((TSame.of s1).trans tsB)
    have getP : ∀ {H' : Hp} {a : Addr} {u : Nd} {m : Int}, Same B H' → H' a = some (.tup (u.map kV)) → valV ps u = some (.int m) → DGet H' pd (.ref a) (some (.int m)) := fun {H' a u m} s ha hv => .inr ⟨ps, u, a, .inl (s _ _ hBp), rfl, ha, hv.symm⟩
    have S2 : FdS B fd g ps os [] (upd H2 d (.frz ob (.dT kvs))) := by
      refine ⟨fun x o e => ?_, nBf, by rw [upd_ne ndf.symm]; exact hfA, fun p hp => (by cases hp), by simp, fun n r e => (by simp [valV] at e), fun n m ra e => (by simp [valV] at e)⟩
      rw [eB] at e
      by_cases q : x = d
      · subst q
        rw [upd_same] at e ⊢
        exact e
      · rw [upd_ne q] at e ⊢
        exact sA _ _ e
    refine ⟨_, rfl, d, ob, rfl, .inr ⟨kvs, upd_same, ?_⟩⟩
    refine for_it walk_keysT (fun i σ H' => ∃ r4 r5 r6 r7 r8 r9 r10 fs, σ = [some (V.ref d), some (V.ref tl), some (V.ref pd), some (V.ref fd), r4, r5, r6, r7, r8, r9, r10] ∧ FdS B fd g ps os fs H') ⟨_, _, _, _, _, _, _, [], rfl, S2⟩ ?_ ?_ ?_
    · rintro i σ H' _ ⟨_, _, _, _, _, _, _, _, _, S⟩
      exact S.same _ _ hBd
    · rintro i x σ H3 H4 hi ⟨r4, r5, r6, r7, r8, r9, r10, fs, rfl, S3⟩ ⟨rfl, ku, vu, qa, hix, rfl, hq⟩
      obtain ⟨ne, hne, ent⟩ := paired_get GA.ents hix
      have eku : ku = ne.1 := ent.1
      have kmem : ku ∈ gkeys g := List.mem_map.mpr ⟨ne, List.mem_of_getElem? hne, eku.symm⟩
      obtain ⟨l, ws, w1, w2, w3⟩ := entB ku kmem
      obtain ⟨m, hm⟩ := PO.1 ku kmem
      refine ⟨_, rfl, _, rfl, d, _, rfl, .inr ⟨kvs, ku, qa, .inr ⟨ob, S3.same _ _ hBd⟩, rfl, hq, w1.symm⟩, l, rfl, ⟨ws, SqL.of (S3.same _ _ w2)⟩, ?_⟩
      refine for_it (walk_list (xs := ws)) (fun jj σ H' => ∃ r5 r6 r7 r8 r9 r10 fs, σ = [some (V.ref d), some (V.ref tl), some (V.ref pd), some (V.ref fd), some (V.ref qa), r5, r6, r7, r8, r9, r10] ∧ FdS B fd g ps os fs H' ∧ H' qa = some (.tup (ku.map kV))) ⟨_, _, _, _, _, _, fs, rfl, S3, hq⟩ ?_ ?_ ?_
      · rintro jj σ H' _ ⟨_, _, _, _, _, _, _, _, S, _⟩
        exact SqL.of (S.same _ _ w2)
      · rintro jj x σ H5 H6 hj ⟨r5, r6, r7, r8, r9, r10, fs, rfl, S5, hq5⟩ ⟨rfl, hxj⟩
        obtain ⟨e, he1, pe, ta, ka, rfl, hpe, hta, hka⟩ := paired_get w3 hxj
        have tS := TSame.of S5.same
        have hta5 := tS _ _ hta
        have hka5 := tS _ _ hka
        have emem := List.mem_of_getElem? he1
        have ein := ok.clo ku kmem e emem
        obtain ⟨m2, hm2⟩ := PO.1 e.2 ein
        refine ⟨pe, _, rfl, SqT.of (tS _ _ hpe), rfl, _, _, rfl, _, _, rfl, rfl, ?_⟩
        refine ⟨_, rfl, _, rfl, pd, _, rfl, getP S5.same hq5 hm, _, rfl, _, rfl, pd, _, rfl, getP S5.same hka5 hm2, rfl, _, rfl, ?_⟩
        refine ite2 (fun hc => ?_) (fun hc => ?_)
        · have emm : m = m2 := V.int.inj (of_decide_eq_true hc)
          subst emm
          refine ⟨fun σ' H' => ∃ fs ra, σ' = [some (V.ref d), some (V.ref tl), some (V.ref pd), some (V.ref fd), some (V.ref qa), some (V.ref ta), some (V.ref ka), some (V.ref ra), r8, r9, r10] ∧ FdS B fd g ps os fs H' ∧ valV fs (Sum.inl m : Key) = some (.ref ra) ∧ TSame H6 H', ?_, ?_⟩
          · refine ⟨_, rfl, fd, rfl, .inl ⟨_, .inl S5.hf⟩, _, rfl, _, rfl, pd, _, rfl, getP S5.same hq5 hm, fun z hz => ?_⟩
            have sz := same_new (o := .dK []) hz
            have nz := S5.same.free hz
            have nzf : z ≠ fd := (ne_of_none S5.hf hz).symm
            have S6 := S5.ext sz
            have hzz : (upd H6 z (.dK [])) z = some (.dK []) := upd_same
            refine ⟨fs, Sum.inl m, S6.hf, rfl, lsz (by have := S5.len; omega), fun v hv => ?_, fun hn => ?_⟩
            · obtain ⟨ra, rs, e1, e2, e3, e4, e5⟩ := S6.at_ m v hv
              subst e1
              exact ⟨fs, ra, rfl, S6, hv, .of sz⟩
            · have tp : TSame (upd H6 z (.dK [])) (upd (upd H6 z (.dK [])) fd (.dK (putK fs (Sum.inl m) (.ref z)))) := (TSame.refl _).mut S6.hf fun _ e => nomatch e
              refine ⟨putK fs (Sum.inl m) (.ref z), z, rfl, ⟨same_mut S6.same nBf, nBf, upd_same, fun p hp => ?_, ?_, fun n r hr => ?_, fun n n' ra h1 h2 => ?_⟩, ?_, (TSame.of sz).trans tp⟩
              · rw [putK_new _ hn] at hp
                rcases List.mem_append.mp hp with q | q
                · exact S5.keys p q
                · have : p = (Sum.inl m, V.ref z) := by simpa using q
                  subst this
                  exact ⟨m, rfl, ku, kmem, hm⟩
              · rw [putK_new _ hn, List.map_append]
                refine List.nodup_append.mpr ⟨S5.nd, by simp, fun x hx y hy => ?_⟩
                have e : y = Sum.inl m := by simpa using hy
                intro q
                have := valV_mem.mpr (by rw [← e, ← q]; exact hx : (Sum.inl m : Key) ∈ fs.map (·.1))
                rw [hn] at this
                cases this
              · rw [valV_put] at hr
                by_cases q : (Sum.inl n : Key) = Sum.inl m
                · rw [if_pos q] at hr
                  cases hr
                  exact ⟨z, [], rfl, by rw [upd_ne nzf]; exact hzz, nz, nzf, ⟨by simp, fun p hp => (by cases hp)⟩⟩
                · rw [if_neg q] at hr
                  obtain ⟨ra, rs, e1, e2, e3, e4, e5⟩ := S6.at_ n r hr
                  exact ⟨ra, rs, e1, by rw [upd_ne e4]; exact e2, e3, e4, e5.mono tp⟩
              · have notz : ∀ n0, valV fs (Sum.inl n0 : Key) = some (.ref z) → False := fun n0 h0 => by
                  obtain ⟨ra', rs, e1, e2, _⟩ := S5.at_ n0 _ h0
                  cases e1
                  rw [hz] at e2
                  cases e2
                rw [valV_put] at h1 h2
                by_cases q1 : (Sum.inl n : Key) = Sum.inl m
                · by_cases q2 : (Sum.inl n' : Key) = Sum.inl m
                  · rw [Sum.inl.inj q1, Sum.inl.inj q2]
                  · rw [if_pos q1] at h1
                    rw [if_neg q2] at h2
                    cases h1
                    exact (notz n' h2).elim
                · rw [if_neg q1] at h1
                  by_cases q2 : (Sum.inl n' : Key) = Sum.inl m
                  · rw [if_pos q2] at h2
                    cases h2
                    exact (notz n h1).elim
                  · rw [if_neg q2] at h2
                    exact S5.inj n n' ra h1 h2
              · rw [valV_put, if_pos rfl]
          · rintro σ' H' ⟨fs, ra, rfl, S7, hva, t67⟩
            have hq7 := t67 _ _ hq5
            have hta7 := t67 _ _ hta5
            have hka7 := t67 _ _ hka5
            clear S5 hq5 hta5 hka5 tS t67
            refine ⟨_, rfl, tl, _, rfl, SqL.of (S7.same _ _ htB), ?_⟩
            refine for_it (walk_enum (xs := tvs)) (fun j σ H' => ∃ r8 r9, σ = [some (V.ref d), some (V.ref tl), some (V.ref pd), some (V.ref fd), some (V.ref qa), some (V.ref ta), some (V.ref ka), some (V.ref ra), r8, r9, r10] ∧ FdS B fd g ps os fs H' ∧
              H' qa = some (.tup (ku.map kV)) ∧ H' ta = some (.tup (tagL e.1)) ∧ H' ka = some (.tup (e.2.map kV))) ⟨_, _, rfl, S7, hq7, hta7, hka7⟩ ?_ ?_ ?_
            · rintro j σ H' _ ⟨_, _, _, S, _⟩
              exact SqL.of (S.same _ _ htB)
            · rintro j x σ H8 H9 hj ⟨r8, r9, rfl, S8, hq8, hta8, hka8⟩ ⟨tt, n1, tv, rfl, htt, rfl, h1, h2⟩
              have en1 : V.int ((j : Nat) : Int) = n1 := Option.some.inj h1
              subst en1
              have st := same_new (o := .tup [V.int ((j : Nat) : Int), tv]) htt
              have S9 := S8.ext st
              have hq9 := st _ _ hq8
              have hta9 := st _ _ hta8
              have hka9 := st _ _ hka8
              have htt9 : (upd H8 tt (.tup [V.int ((j : Nat) : Int), tv])) tt = some (.tup [V.int ((j : Nat) : Int), tv]) := upd_same
              generalize upd H8 tt (.tup [V.int ((j : Nat) : Int), tv]) = H9 at st S9 hq9 hta9 hka9 htt9 ⊢
              obtain ⟨o, ho, tvo⟩ := paired_get ptB h2
              obtain ⟨ra', rs, e1, e2, e3, e4, e5⟩ := S9.at_ m _ hva
              cases e1
              refine ⟨tt, _, rfl, SqT.of htt9, rfl, _, _, rfl, _, _, rfl, rfl, ?_⟩
              refine ⟨_, rfl, _, rfl, ra, _, rfl, DGet.k (k := Sum.inl (j : Int)) e2, _, rfl, ?_⟩
              cases hv : valV rs (Sum.inl (j : Int) : Key) with
              | some v =>
                refine iteF (iteF ?_)
                exact ⟨_, _, rfl, S9, hq9, hta9, hka9⟩
              | none =>
                refine iteT ?_
                refine ⟨_, rfl, _, rfl, ta, tv, e.1, o, rfl, hta9, tvo.mono (.of S9.same), ook o (List.mem_of_getElem? ho), _, rfl, ?_⟩
                cases hp : passB e.1 o with
                | false =>
                  refine iteF ?_
                  exact ⟨_, _, rfl, S9, hq9, hta9, hka9⟩
                | true =>
                  refine iteT ?_
                  refine ⟨_, rfl, _, rfl, _, rfl, (by show 3 ≤ sizeLine; decide), fun q hq => ?_⟩
                  have sq := same_new (o := .tup [V.ref qa, V.ref ta, V.ref ka]) hq
                  have SA := S9.ext sq
                  have hqq : (upd H9 q (.tup [V.ref qa, V.ref ta, V.ref ka])) q = some (.tup [V.ref qa, V.ref ta, V.ref ka]) := upd_same
                  have e2A := sq _ _ e2
                  have e5A := e5.mono (.of sq)
                  have hqA := sq _ _ hq9
                  have htA := sq _ _ hta9
                  have hkA := sq _ _ hka9
                  generalize upd H9 q (.tup [V.ref qa, V.ref ta, V.ref ka]) = HA at sq SA hqq e2A e5A hqA htA hkA ⊢
                  have lr : rs.length ≤ 3 := by
                    have sub : rs.map (·.1) ⊆ (List.range os.length).map fun (k : Nat) => (Sum.inl (k : Int) : Key) := by
                      intro k hk
                      obtain ⟨p, hp, e⟩ := List.mem_map.mp hk
                      obtain ⟨j', c, o', h1, h2, _⟩ := e5.row p hp
                      exact List.mem_map.mpr ⟨j', List.mem_range.mpr (List.getElem?_eq_some_iff.mp h2).1, by rw [← e, h1]⟩
                    have le := e5.nd.length_le_of_subset sub
                    rw [List.length_map, List.length_map, List.length_range] at le
                    omega
                  refine ⟨_, rfl, _, rfl, ra, _, rfl, DPut.k (k := Sum.inl (j : Int)) e2A (lsz (by omega)), ?_⟩
                  rw [putK_new _ hv]
                  have tB' : TSame HA (upd HA ra (.dK (rs ++ [(Sum.inl (j : Int), V.ref q)]))) := (TSame.refl _).mut e2A fun _ e => nomatch e
                  refine ⟨_, _, rfl, SA.rowput hva e2A ⟨?_, fun p hp' => ?_⟩, tB' _ _ hqA, tB' _ _ htA, tB' _ _ hkA⟩
                  · rw [List.map_append]
                    refine List.nodup_append.mpr ⟨e5.nd, by simp, fun x hx y hy => ?_⟩
                    have e : y = Sum.inl (j : Int) := by simpa using hy
                    intro q
                    have := valV_mem.mpr (by rw [← e, ← q]; exact hx : (Sum.inl (j : Int) : Key) ∈ rs.map (·.1))
                    rw [hv] at this
                    cases this
                  · rcases List.mem_append.mp hp' with z | z
                    · exact (e5A.mono tB').row p z
                    · have : p = (Sum.inl (j : Int), V.ref q) := by simpa using z
                      subst this
                      exact ⟨j, (ku, e.1, e.2), o, rfl, ho, hp, ⟨q, qa, ta, ka, rfl, tB' _ _ hqq, tB' _ _ hqA, tB' _ _ htA, tB' _ _ hkA⟩, ⟨kmem, emem, hm, hm2⟩⟩
            · rintro σ H8 ⟨r8, r9, rfl, S8, hq8, _, _⟩
              exact ⟨_, _, _, _, _, _, fs, rfl, S8, hq8⟩
        · exact ⟨_, _, _, _, _, _, fs, rfl, S5, hq5⟩
      · rintro σ H5 ⟨r5, r6, r7, r8, r9, r10, fs, rfl, S5, hq5⟩
        exact ⟨_, _, _, _, _, _, _, fs, rfl, S5⟩
    · rintro σ H3 ⟨r4, r5, r6, r7, r8, r9, r10, fs, rfl, S3⟩
      refine ⟨S3.same _ _ hBd, ?_⟩
      rw [eB] at S3
      have S4 := S3.unlock G1.dict
      generalize upd H3 d (.dT kvs) = H4 at S4 ⊢
      clear S3
      have mapE : fs.map (·.1) = (fs.map fun p => (match p.1 with | Sum.inl n => n | Sum.inr _ => 0)).map Sum.inl := by
        rw [List.map_map]
        refine List.map_congr_left fun p hp => ?_
        obtain ⟨n, h1, _⟩ := S4.keys p hp
        show p.1 = Sum.inl (match p.1 with | Sum.inl n => n | Sum.inr _ => 0)
        rw [h1]
      refine ⟨_, rfl, fd, fs, _, rfl, .inl S4.hf, mapE, ?_, fun ys sp perm srt hsp => ⟨sp, rfl, ⟨_, SqL.of upd_same⟩, ?_⟩⟩
      · rw [List.length_map]
        have := S4.len
        omega
      have ss := same_new (o := .lst (ys.map V.int)) hsp
      have S5 := S4.ext ss
      have hsp5 : (upd H4 sp (.lst (ys.map V.int))) sp = some (.lst (ys.map V.int)) := upd_same
      generalize upd H4 sp (.lst (ys.map V.int)) = H5 at ss S5 hsp5 ⊢
      have s15 := S5.same
      refine for_it (walk_list (xs := ys.map V.int)) (fun i σ H' => ∃ r8, σ = [some (V.ref d), some (V.ref tl), some (V.ref pd), some (V.ref fd), r4, r5, r6, r7, r8, r9, r10] ∧ Same H5 H') ⟨r8, rfl, Same.refl _⟩ (fun i σ H' _ ⟨_, _, S'⟩ => SqL.of (S' _ _ hsp5)) ?_ ?_
      · rintro i x σ H6 H7 hi ⟨r8, rfl, S6⟩ ⟨rfl, hxi⟩
        rw [List.getElem?_map] at hxi
        obtain ⟨n, hn, hxn⟩ := Option.map_eq_some_iff.mp hxi
        subst hxn
        have nin : (Sum.inl n : Key) ∈ fs.map (·.1) := by
          rw [mapE]
          exact List.mem_map.mpr ⟨n, perm.subset (List.mem_of_getElem? hn), rfl⟩
        obtain ⟨r, hr⟩ := Option.isSome_iff_exists.mp (valV_mem.mpr nin)
        have S7 := S5.ext S6
        obtain ⟨ra, rs, e1, e2, e3, e4, e5⟩ := S7.at_ n r hr
        subst e1
        have gf : DGet H7 fd (.int n) (some (.ref ra)) := .inl ⟨fs, Sum.inl n, .inl S7.hf, rfl, hr.symm⟩
        have htl7 := S7.same _ _ (s1 _ _ htl)
        have lp := paired_len pts
        refine ⟨_, rfl, _, rfl, fd, _, rfl, gf, ra, rs, rfl, e2, _, rfl, tl, tvs, rfl, .inl (SqL.of htl7), rfl, _, rfl, ?_⟩
        refine ite2 (fun hc => ?_) (fun hc => ?_)
        · have el : rs.length = os.length := by
            have := V.int.inj (of_decide_eq_true hc)
            omega
          have S17 := s1.trans S7.same
          refine ⟨_, rfl, _, rfl, _, rfl, tl, tvs, rfl, .inl (SqL.of htl7), _, rfl, by omega, by omega, fun D hD => ?_⟩
          have hs0 := same_new (o := .lst []) hD
          have etn : ((tvs.length : Nat) : Int).toNat = os.length := by omega
          rw [etn]
          refine lc_it walk_range (fun j H' => Same H7 H' ∧ ∃ vs cs, H' D = some (.lst vs) ∧ Paired (ChV H') vs cs ∧ cs.length = j ∧ ∀ (k : Nat) c, cs[k]? = some c → ∃ o, os[k]? = some o ∧ passB c.2.1 o = true ∧ ChOk g ps n c) ⟨hs0, [], [], upd_same, .nil, rfl, fun k c h => (by simp at h)⟩ (fun _ _ _ _ => trivial) ?_ ?_
          · rintro j x H8 H9 hj ⟨s8, vs, cs, hv, pv, lc, all⟩ ⟨rfl, rfl⟩
            obtain ⟨v, c, o, f1, f2, f3, f4, f5⟩ := e5.full el hj
            have S8 := S7.ext s8
            have gf8 : DGet H9 fd (.int n) (some (.ref ra)) := .inl ⟨fs, Sum.inl n, .inl S8.hf, rfl, hr.symm⟩
            have e0 : (0 : Int) + ((j : Nat) : Int) = ((j : Nat) : Int) := Int.zero_add _
            refine ⟨rfl, ?_⟩
            unfold tYes
            refine iteT ?_
            refine ⟨_, rfl, _, rfl, fd, _, rfl, gf8, _, rfl, ra, v, rfl, .inl ⟨rs, Sum.inl (j : Int), .inl (s8 _ _ e2), ?_, f1.symm⟩, vs, hv, lsz (by have := paired_len pv; omega), ?_⟩
            · show V.int (0 + ((j : Nat) : Int)) = V.int ((j : Nat) : Int)
              rw [Int.zero_add]
            · have t9 : TSame H9 (upd H9 D (.lst (vs ++ [v]))) := (TSame.refl _).mut hv fun _ e => nomatch e
              refine ⟨same_mut s8 hD, vs ++ [v], cs ++ [c], upd_same, paired_app (paired_imp pv fun _ _ r => r.mono t9) (.cons (f4.mono ((TSame.of s8).trans t9)) .nil), by rw [List.length_append, List.length_singleton, lc], fun k c' hk => ?_⟩
              by_cases q : k < cs.length
              · rw [List.getElem?_append_left q] at hk
                exact all k c' hk
              · have hl := (List.getElem?_eq_some_iff.mp hk).1
                rw [List.length_append, List.length_singleton] at hl
                have ek : k = cs.length := by omega
                rw [ek, List.getElem?_append_right (Nat.le_refl _), Nat.sub_self] at hk
                have := Option.some.inj hk
                subst this
                exact ⟨o, by rw [ek, lc]; exact f2, f3, f5⟩
          · rintro H8 ⟨s8, vs, cs, hv, pv, lc, all⟩
            have S18 := S17.trans s8
            have hp8 : H8 pd = some (.dT ps) := s8 _ _ (S7.same _ _ hpd)
            refine ⟨d, pd, D, kvs, g, ps, vs, cs, n, rfl, GA.mono S18, ok, hp8, PO, hv, pv, fun z => ?_, by omega, fun c hc => ?_, fun v H' u ts s' wv wk inT tne tl3 uk => ?_⟩
            · rw [z] at lc
              exact one (List.length_eq_zero_iff.mp lc.symm)
            · obtain ⟨k, hk⟩ := List.mem_iff_getElem?.mp hc
              obtain ⟨_, _, _, h⟩ := all k c hk
              exact h
            · refine kw v H' u ts (S18.trans s') wv wk (fun o ho => ?_) tne tl3 uk
              obtain ⟨k, hk⟩ := List.mem_iff_getElem?.mp ho
              have kl := (List.getElem?_eq_some_iff.mp hk).1
              obtain ⟨c, hc⟩ : ∃ c, cs[k]? = some c := ⟨cs[k]'(by omega), List.getElem?_eq_getElem (by omega)⟩
              obtain ⟨o', h1, h2, _⟩ := all k c hc
              rw [hk] at h1
              cases h1
              exact ⟨c.2.1, inT c (List.mem_of_getElem? hc), h2⟩
        · exact ⟨_, rfl, S6⟩
      · rintro σ H6 ⟨r8, rfl, S6⟩
        exact kn H6 ((s1.trans s15).trans S6)
def sp_cycle_with : Sp := fun vs H Q _ => ∃ (d : Addr) (a b : Int) (kvs : List (Nd × V)) (g : Gph), vs = [.ref d, .int a, .int b] ∧ GphAt H d kvs g ∧ GOk' g ∧
  (∀ H', Same H H' → Q .non H') ∧ ∀ (v : V) (H' : Hp) (u : Nd) (ts : List Tag), Same H H' → WalkV H' v u ts → Wk g u ts u → (∀ t ∈ ts, t.2.1 ≤ a ∧ t.2.2 ≤ b) → (∃ t ∈ ts, t.2.1 = a) → (∃ t ∈ ts, t.2.2 = b) → ts ≠ [] → ts.length ≤ 300 → u ∈ gkeys g → Q v H'
theorem bound_wk {g : Gph} {a b : Int} {u v : Nd} {ts : List Tag} (h : Wk (boundG g a b) u ts v) : Wk g u ts v ∧ ∀ t ∈ ts, t.2.1 ≤ a ∧ t.2.2 ≤ b := by
  induction h with
  | nil u => exact ⟨.nil u, fun t ht => by cases ht⟩
  | @cons u v w t ts he _ ih =>
    rw [bound_look] at he
    obtain ⟨h1, h2⟩ := List.mem_filter.mp he
    refine ⟨.cons h1 ih.1, fun t' ht' => ?_⟩
    rcases List.mem_cons.mp ht' with e | e
    · subst e
      unfold fits at h2
      obtain ⟨z1, z2⟩ := Bool.and_eq_true_iff.mp h2
      exact ⟨of_decide_eq_true z1, of_decide_eq_true z2⟩
    · exact ih.2 t' e
theorem sc_cycle_with : FnScope ["edges", "first", "second"] ["edges", "first", "second"] (defScope s_g_cycle_with) := ⟨rfl, rfl, rfl, by decide +kernel, rfl, by decide +kernel, by decide +kernel⟩
theorem ok_cycle_with (T : Tp K mg) (G_cycle_through : GOk P w K mg base "cycle_through" 3 ["edges", "tests"] sp_cycle_through) (G_bounded : GOk P w K mg base "bounded" 1 ["edges", "first", "second"] sp_bounded) : GOk P w K mg base "cycle_with" 4 ["edges", "first", "second"] sp_cycle_with := by
  refine gok_of (st := s_g_cycle_with) T.fd_g_cycle_with T.g_cycle_with sc_cycle_with (fun _ _ _ _ _ _ us hl => match us, hl with | [_, _, _], _ => rfl) (fun vs H Q E h => ?_) (fun cdv A outer s H vs Q E hr h => ?_)
  · obtain ⟨d, a, b, kvs, g, rfl, _⟩ := h
    rfl
  · obtain ⟨d, a, b, kvs, g, rfl, GA, ok, kn, kw⟩ := h
    have hu := hu_of hr
    refine ⟨_, (pss_one (ps_ret (pe_g G_cycle_through (hr.mono (by decide)) (pa_cons (pe_g G_bounded (hr.mono (by decide)) (pa_cons (pv 0) (pa_cons (pv 1) (pa_cons (pv 2) pa_nil)))) (pa_cons (pe_lst (pa_cons (pe_tup (pa_cons pe_int (pa_cons (pv 1) pa_nil))) (pa_cons (pe_tup (pa_cons pe_int (pa_cons (pv 2) pa_nil))) pa_nil))) pa_nil))))), ?_⟩
    refine ⟨_, rfl, _, rfl, _, rfl, d, a, b, kvs, g, rfl, GA, ok, fun p H1 kvs' s1 np G1 => ⟨_, rfl, (by show 2 ≤ sizeLine; decide), fun t1 h1 => ⟨_, rfl, (by show 2 ≤ sizeLine; decide), fun t2 h2 => ⟨(by show 2 ≤ sizeLine; decide), fun l hl => ?_⟩⟩⟩⟩
    have sA := (same_new (o := .tup [V.int 1, V.int a]) h1).trans ((same_new (o := .tup [V.int 2, V.int b]) h2).trans (same_new (o := .lst [V.ref t1, V.ref t2]) hl))
    have f1 := ((same_new (o := .tup [V.int 2, V.int b]) h2).trans (same_new (o := .lst [V.ref t1, V.ref t2]) hl)) t1 _ upd_same
    have f2 := (same_new (o := .lst [V.ref t1, V.ref t2]) hl) t2 _ upd_same
    have s2 := s1.trans sA
    refine ⟨p, l, kvs', boundG g a b, [V.ref t1, V.ref t2], [some (1, a), some (2, b)], rfl, G1.mono sA, bound_ok a b ok, upd_same, .cons ⟨t1, rfl, f1⟩ (.cons ⟨t2, rfl, f2⟩ .nil), by simp, by simp, fun o ho => ?_, fun H' s' => kn H' (s2.trans s'), fun v H' u ts s' wv wk all tne tl uk => ?_⟩
    · rcases List.mem_cons.mp ho with e | ho
      · subst e
        exact .inl rfl
      · have e : o = some (2, b) := by simpa using ho
        subst e
        exact .inr rfl
    · obtain ⟨w1, w2⟩ := bound_wk wk
      rw [bound_keys] at uk
      refine kw v H' u ts (s2.trans s') wv w1 w2 ?_ ?_ tne tl uk
      · obtain ⟨t, ht, hp⟩ := all (some (1, a)) (by simp)
        exact ⟨t, ht, of_decide_eq_true hp⟩
      · obtain ⟨t, ht, hp⟩ := all (some (2, b)) (by simp)
        exact ⟨t, ht, of_decide_eq_true hp⟩
end
end K42
set_option Elab.async false
set_option linter.all false
set_option maxRecDepth 100000
set_option maxHeartbeats 4000000
namespace K42
open PySem PySem.Spec PyProof.Rows L2

open SX
def sp_shortest_cycle : Sp := fun vs H Q _ => ∃ c : Wd, vs = [.str (S c)] ∧ c ≠ [] ∧ c.length ≤ 10000 ∧ ∀ d k, Prim d → c = rep k d → 1 ≤ k → d.length ≤ c.length → Q (.str (S d)) H
theorem dec_str {x y : Wd} : decide (V.str (S x) = V.str (S y)) = decide (x = y) := by
  by_cases h : x = y
  · subst h
    simp
  · rw [decide_eq_false h, decide_eq_false (fun e => h (S_inj (V.str.inj e)))]
theorem lit_nil : (("" : Str)) = S [] := by rfl
theorem pow_one {c : Wd} (hc : c ≠ []) {n : Nat} (h1 : 1 ≤ n) (h2 : n ≤ c.length) (hm : c.length % n = 0) : 1 ≤ c.length / n := Nat.div_pos h2 h1
section
variable {P : Program} {w : World} {K : PySem.W.Frag} {mg : Str → Option Value} {base : Heap}
theorem sc_shortest_cycle : FnScope ["cycle", "size"] ["cycle"] (defScope s_g_shortest_cycle) := ⟨rfl, rfl, rfl, by decide +kernel, rfl, by decide +kernel, by decide +kernel⟩
theorem ok_shortest_cycle (T : Tp K mg)  : GOk P w K mg base "shortest_cycle" 1 ["cycle"] sp_shortest_cycle := by
  refine gok_of (st := s_g_shortest_cycle) T.fd_g_shortest_cycle T.g_shortest_cycle sc_shortest_cycle (fun _ _ _ _ _ _ us hl => match us, hl with | [_], _ => rfl) (fun vs H Q E h => ?_) (fun cdv A outer s H vs Q E hr h => ?_)
  · obtain ⟨c, rfl, _⟩ := h
    rfl
  · obtain ⟨c, rfl, hc, hl, k⟩ := h
    have hu := hu_of hr
    refine ⟨_, (pss_cons (ps_for PassesOwn.never rfl (pi_range2 (by rfl) T.b_range (pa_cons pe_int (pa_cons (pe_op op_add (pe_callB call_len_str (by rfl) T.b_len PySem.boot_len (pa_cons (pv 0) pa_nil)) pe_int) pa_nil))) (pg_name (i := 1) sc_shortest_cycle.nd rfl (by first | exact Or.inl rfl | exact Or.inr rfl)) (pss_one (ps_if (PW.pt (pw_and (pt_cmpR op_eq (pe_op op_mod (pe_callB call_len_str (by rfl) T.b_len PySem.boot_len (pa_cons (pv 0) pa_nil)) (pv 1)) pe_int (nomark _)) (pw_and1 (pt_cmpR op_eq (pe_op op_mul_str (pe_slice sl_str (pv 0) po_none (po_some (pv 1))) (pe_op op_fdiv (pe_callB call_len_str (by rfl) T.b_len PySem.boot_len (pa_cons (pv 0) pa_nil)) (pv 1))) (pv 0) (nomark _))))) (pss_one (ps_ret (pe_slice sl_str (pv 0) po_none (po_some (pv 1))))) pss_nil)))
      (pss_one (ps_ret (pv 0)))), ?_⟩
    have len : (S c).length = c.length := S_len c
    have c1 := List.length_pos_iff.mpr hc
    have lz : (S c).length ≤ sizeLine := by
      rw [len, sizeLine_eq]
      omega
    refine ⟨_, rfl, _, rfl, lz, ?_⟩
    refine ⟨_, _, rfl, rfl, ?_⟩
    refine ⟨_, _, rfl, ?_, ?_⟩
    · rw [len]
      omega
    refine for_it walk_range (fun i σ H' => H' = H ∧ ∃ r1, σ = [some (V.str (S c)), r1] ∧ ∀ m, 1 ≤ m → m ≤ i → c.length % m = 0 → rep (c.length / m) (c.take m) ≠ c) ⟨rfl, _, rfl, fun m h1 h2 => by omega⟩ (fun _ _ _ _ _ => trivial) ?_ ?_
    · rintro i x σ H1 H2 hi ⟨rfl, r1, rfl, no⟩ ⟨rfl, rfl⟩
      rw [len] at hi
      have ej : (1 : Int) + (i : Int) = ((i + 1 : Nat) : Int) := by omega
      refine ⟨_, rfl, _, rfl, lz, _, rfl, ?_⟩
      refine ⟨_, _, rfl, rfl, (by omega), ?_⟩
      refine ⟨rfl, _, rfl, ?_⟩
      have em : decide (V.int (((S c).length : Int) % (1 + (i : Int))) = V.int 0) = decide (c.length % (i + 1) = 0) := by
        rw [dec_int, len, ej, ← Int.natCast_emod, Bool.eq_iff_iff, beq_iff_eq, decide_eq_true_iff]
        generalize c.length % (i + 1) = q
        omega
      rw [em]
      refine ite2 (fun hm => ?_) (fun hm => ?_)
      · have hm' := of_decide_eq_true hm
        have et : cutS (S c) none (some (1 + (i : Int))) = S (c.take (i + 1)) := by
          rw [cut_to (by omega), ej]
          rfl
        have ed : ((S c).length : Int) / (1 + (i : Int)) = ((c.length / (i + 1) : Nat) : Int) := by
          rw [len, ej]
          exact (Int.natCast_ediv _ _).symm
        have dl : c.length / (i + 1) ≤ c.length := Nat.div_le_self _ _
        have tl : (c.take (i + 1)).length = i + 1 := by rw [List.length_take]; omega
        have pl : (i + 1) * (c.length / (i + 1)) ≤ c.length := Nat.mul_div_le _ _
        refine ⟨_, rfl, _, rfl, _, rfl, _, rfl, lz, ?_⟩
        refine ⟨_, rfl, _, rfl, lz, _, rfl, ?_⟩
        refine ⟨_, _, rfl, rfl, ⟨by omega, by omega⟩, ?_⟩
        refine ⟨_, _, rfl, rfl, ?_, ?_, ?_, ?_, ?_⟩
        · rw [ed]
          exact Int.natCast_nonneg _
        · rw [ed]
          generalize c.length / (i + 1) = q at dl ⊢
          omega
        · rw [et, S_len, tl]
          omega
        · rw [et, S_len, tl, ed, Int.toNat_natCast]
          exact Nat.le_trans pl (by omega)
        refine ⟨_, rfl, rfl, _, rfl, ?_⟩
        rw [et, ed, mul_S _ (Int.natCast_nonneg _), Int.toNat_natCast, dec_str]
        refine ite2 (fun he => ?_) (fun he => ?_)
        · have he' := of_decide_eq_true he
          refine ⟨_, rfl, _, rfl, _, rfl, _, rfl, lz, ?_⟩
          rw [et]
          exact k _ _ (prim_least (by omega) hc he' (by omega) fun m m1 m2 => no m m1 (by omega)) he'.symm (Nat.div_pos (by omega) (by omega)) (by rw [tl]; omega)
        · refine ⟨rfl, _, rfl, fun m m1 m2 m3 => ?_⟩
          by_cases q : m = i + 1
          · subst q
            exact fun z => he (decide_eq_true z)
          · exact no m m1 (by omega) m3
      · refine ⟨rfl, _, rfl, fun m m1 m2 m3 => ?_⟩
        by_cases q : m = i + 1
        · subst q
          exact absurd (decide_eq_true m3) hm
        · exact no m m1 (by omega) m3
    · rintro σ H1 ⟨rfl, r1, rfl, no⟩
      refine (no c.length c1 (by rw [len]; omega) (Nat.mod_self _) ?_).elim
      rw [Nat.div_self c1, List.take_length, rep_one]
def RowAt (H : Hp) (a : Addr) (r : Wd × Wd) : Prop := H a = some (.tup [.str (S r.1), .str (S r.2)])
def sp_shortened : Sp := fun vs H Q _ => ∃ (a : Addr) (r : Wd × Wd), vs = [.ref a] ∧ RowAt H a r ∧ r.2 ≠ [] ∧ r.1.length ≤ 10000 ∧ r.2.length ≤ 10000 ∧
  ∀ b r', H b = none → NF r' → Eqv r r' → r'.1.length ≤ r.1.length → r'.2.length ≤ r.2.length → Q (.ref b) (upd H b (.tup [.str (S r'.1), .str (S r'.2)]))
theorem snoc_of {a : Wd} (h : a ≠ []) : ∃ q x, a = q ++ [x] := by
  rcases List.eq_nil_or_concat a with e | ⟨q, x, e⟩
  · exact absurd e h
  · exact ⟨q, x, by rw [e, List.concat_eq_append]⟩
theorem dec_str1 {x y : Nat} : decide (V.str ⟨#[x]⟩ = V.str ⟨#[y]⟩) = decide (x = y) := by
  have : decide (V.str (S [x]) = V.str (S [y])) = decide ([x] = [y]) := dec_str
  refine this.trans ?_
  by_cases h : x = y
  · subst h
    simp
  · rw [decide_eq_false h, decide_eq_false (fun e => h (List.cons.inj e).1)]
theorem sc_shortened : FnScope ["row", "prefix", "cycle"] ["row"] (defScope s_g_shortened) := ⟨rfl, rfl, rfl, by decide +kernel, rfl, by decide +kernel, by decide +kernel⟩
theorem ok_shortened (T : Tp K mg) (G_shortest_cycle : GOk P w K mg base "shortest_cycle" 1 ["cycle"] sp_shortest_cycle) : GOk P w K mg base "shortened" 2 ["row"] sp_shortened := by
  refine gok_of (st := s_g_shortened) T.fd_g_shortened T.g_shortened sc_shortened (fun _ _ _ _ _ _ us hl => match us, hl with | [_], _ => rfl) (fun vs H Q E h => ?_) (fun cdv A outer s H vs Q E hr h => ?_)
  · obtain ⟨a, r, rfl, _⟩ := h
    rfl
  · obtain ⟨a, ⟨p, c⟩, rfl, ha, hc, lp, lc, k⟩ := h
    have hu := hu_of hr
    refine ⟨_, (pss_cons (ps_asg (pv 0) (pg_tupK K (n := 2) (by rfl) (pgs_cons (pg_name (i := 1) sc_shortened.nd rfl (by first | exact Or.inl rfl | exact Or.inr rfl)) (pgs_cons (pg_name (i := 2) sc_shortened.nd rfl (by first | exact Or.inl rfl | exact Or.inr rfl)) pgs_nil))))
      (pss_cons (ps_set (i := 2) sc_shortened.nd rfl (by first | exact Or.inl rfl | exact Or.inr rfl) (pe_g G_shortest_cycle (hr.mono (by decide)) (pa_cons (pv 2) pa_nil)))
      (pss_cons (ps_while PassesOwn.never (PW.pt (pw_and (pt_cmpR op_ne (pv 1) pe_str (nomark _)) (pw_and1 (pt_cmpR op_eq (pe_ix ix_str (pv 1) (pe_un un_neg pe_int) (fun _ _ => rfl)) (pe_ix ix_str (pv 2) (pe_un un_neg pe_int) (fun _ _ => rfl)) (nomark _))))) (pss_one (ps_par (i := 1) (j := 2) (by rfl) sc_shortened.nd rfl rfl (by decide) rfl rfl (pa_cons (pe_slice sl_str (pv 1) po_none (po_some (pe_un un_neg pe_int))) (pa_cons (pe_op op_add_str (pe_ix ix_str (pv 2) (pe_un un_neg pe_int) (fun _ _ => rfl)) (pe_slice sl_str (pv 2) po_none (po_some (pe_un un_neg pe_int)))) pa_nil)) (by rfl))))
      (pss_one (ps_ret (pe_tup (pa_cons (pv 1) (pa_cons (pv 2) pa_nil)))))))), ?_⟩
    have lz : ∀ {z : Wd}, z.length ≤ 20000 → (S z).length ≤ sizeLine := fun {z} h => by
      rw [S_len, sizeLine_eq]
      omega
    refine ⟨_, rfl, a, _, rfl, SqT.of ha, rfl, _, _, rfl, _, _, rfl, rfl, ?_⟩
    refine ⟨_, rfl, c, rfl, hc, lc, fun d j pd ed j1 ld => ?_⟩
    have lp' : p.length ≤ 10000 := lp
    have lc' : c.length ≤ 10000 := lc
    refine ⟨fun m σ H' => ∃ p1 c1, σ = [some (V.ref a), some (V.str (S p1)), some (V.str (S c1))] ∧ H' = H ∧ Eqv (p, c) (p1, c1) ∧ Prim c1 ∧ p1.length ≤ p.length ∧ c1.length ≤ c.length ∧ m = p1.length, ⟨_, p, d, rfl, rfl, by rw [ed]; exact eqv_pow p d j1, pd, Nat.le_refl _, ld, rfl⟩, ?_⟩
    rintro m σ H1 ⟨p1, c1, rfl, rfl, E1, P1, l1, l2, rfl⟩
    have fin : (∀ x, p1.getLast? = some x → c1.getLast? ≠ some x) → ∀ b, H1 b = none → Q (.ref b) (upd H1 b (.tup [.str (S p1), .str (S c1)])) := fun nf b hb => k b (p1, c1) hb ⟨P1, nf⟩ E1 l1 l2
    refine ⟨_, rfl, rfl, _, rfl, ?_⟩
    rw [lit_nil, dec_str]
    by_cases h0 : p1 = []
    · subst h0
      refine iteF (iteF ?_)
      exact ⟨_, rfl, _, rfl, (by show 2 ≤ sizeLine; decide), fun b hb => fin (fun x e => by simp at e) b hb⟩
    obtain ⟨q, x, rfl⟩ := snoc_of h0
    obtain ⟨e, y, rfl⟩ := snoc_of P1.1
    rw [decide_eq_false h0]
    refine iteT ?_
    rw [List.length_append, List.length_singleton] at l1 l2
    refine ⟨_, rfl, _, rfl, _, _, x, rfl, rfl, lz (by rw [List.length_append, List.length_singleton]; omega), atI_last q x, ?_⟩
    refine ⟨_, rfl, _, rfl, _, _, y, rfl, rfl, lz (by rw [List.length_append, List.length_singleton]; omega), atI_last e y, ?_⟩
    refine ⟨rfl, _, rfl, ?_⟩
    rw [dec_str1]
    refine ite2 (fun hx => ?_) (fun hx => ?_)
    · have hx' := of_decide_eq_true hx
      subst hx'
      refine ⟨fun σ' H' => σ' = [some (V.ref a), some (V.str (S q)), some (V.str (S (x :: e)))] ∧ H' = H1, ?_, ?_⟩
      · rintro σ' H' ⟨rfl, rfl⟩
        exact ⟨q.length, by rw [List.length_append, List.length_singleton]; omega, q, x :: e, rfl, rfl, E1.trans (eqv_rot q e x), P1.rot, by show q.length ≤ p.length; omega, by rw [List.length_cons]; omega, rfl⟩
      · refine ⟨_, rfl, _, rfl, _, rfl, _, rfl, lz (by rw [List.length_append, List.length_singleton]; omega), ?_⟩
        refine ⟨_, rfl, _, rfl, _, _, x, rfl, rfl, lz (by rw [List.length_append, List.length_singleton]; omega), atI_last e x, ?_⟩
        refine ⟨_, rfl, _, rfl, _, rfl, _, rfl, lz (by rw [List.length_append, List.length_singleton]; omega), ?_⟩
        refine ⟨_, _, rfl, rfl, ?_, ?_⟩
        · rw [cut_butlast, S_len]
          show 1 + e.length ≤ sizeLine
          rw [sizeLine_eq]
          omega
        · refine ⟨_, _, rfl, ?_⟩
          rw [cut_butlast, cut_butlast]
          refine ⟨?_, rfl⟩
          rw [show (⟨#[x]⟩ : Str) = S [x] from rfl, S_cat]
          rfl
    · refine ⟨_, rfl, _, rfl, (by show 2 ≤ sizeLine; decide), fun b hb => fin (fun z ez => ?_) b hb⟩
      rw [List.getLast?_append, List.getLast?_singleton] at ez ⊢
      intro e2
      have e3 : x = z := by simpa using ez
      have e4 : y = z := by simpa using e2
      exact hx (decide_eq_true (e3.trans e4.symm))
def sp_law_normal : Sp := fun vs H Q _ => ∃ (a : Addr) (r : Wd × Wd), vs = [.ref a] ∧ RowAt H a r ∧ r.2 ≠ [] ∧ r.1.length ≤ 10000 ∧ r.2.length ≤ 10000 ∧
  ∀ b r' H', Same H H' → RowAt H' b r' → (NF r → r' = r) → Eqv r r' → r'.1.length ≤ r.1.length → r'.2.length ≤ r.2.length → Q (.ref b) H'
theorem range1_succ (n : Nat) : List.range' 1 (n + 1) = List.range' 1 n ++ [n + 1] := by
  rw [List.range'_1_concat, Nat.add_comm 1 n]
theorem range1_mem {n m : Nat} : m ∈ List.range' 1 n ↔ 1 ≤ m ∧ m ≤ n := by
  rw [List.mem_range'_1]
  omega
theorem first_good {n : Nat} (g : Nat → Bool) (h : g n = true) (hn : 1 ≤ n) : ∃ m rest, (List.range' 1 n).filter g = m :: rest ∧ g m = true ∧ 1 ≤ m ∧ m ≤ n ∧ ∀ k, 1 ≤ k → k < m → g k = false := by
  cases e : (List.range' 1 n).filter g with
  | nil =>
    have : n ∈ (List.range' 1 n).filter g := List.mem_filter.mpr ⟨range1_mem.mpr ⟨hn, Nat.le_refl _⟩, h⟩
    rw [e] at this
    cases this
  | cons m rest =>
    have mm : m ∈ (List.range' 1 n).filter g := by rw [e]; exact List.mem_cons_self
    obtain ⟨m1, m2⟩ := List.mem_filter.mp mm
    obtain ⟨m3, m4⟩ := range1_mem.mp m1
    refine ⟨m, rest, rfl, m2, m3, m4, fun k k1 k2 => ?_⟩
    cases gk : g k with
    | false => rfl
    | true =>
      have km : k ∈ (List.range' 1 n).filter g := List.mem_filter.mpr ⟨range1_mem.mpr ⟨k1, by omega⟩, gk⟩
      have pw : ((List.range' 1 n).filter g).Pairwise (· < ·) := List.Pairwise.filter _ List.pairwise_lt_range'
      rw [e] at km pw
      rcases List.mem_cons.mp km with q | q
      · omega
      · have := List.rel_of_pairwise_cons pw q
        omega
theorem sc_law_normal : FnScope ["_law_row", "_law_prefix", "_law_cycle", "_law_sizes", "_law_turn", "_law_size"] ["_law_row"] (defScope s_g_law_normal) := ⟨rfl, rfl, rfl, by decide +kernel, rfl, by decide +kernel, by decide +kernel⟩
theorem ok_law_normal (T : Tp K mg)  : GOk P w K mg base "_law_normal" 1 ["_law_row"] sp_law_normal := by
  refine gok_of (st := s_g_law_normal) T.fd_g_law_normal T.g_law_normal sc_law_normal (fun _ _ _ _ _ _ us hl => match us, hl with | [_], _ => rfl) (fun vs H Q E h => ?_) (fun cdv A outer s H vs Q E hr h => ?_)
  · obtain ⟨a, r, rfl, _⟩ := h
    rfl
  · obtain ⟨a, ⟨p, c⟩, rfl, ha, hc, lp, lc, k⟩ := h
    have hu := hu_of hr
    refine ⟨_, (pss_cons (ps_asg (pv 0) (pg_tupK K (n := 2) (by rfl) (pgs_cons (pg_name (i := 1) sc_law_normal.nd rfl (by first | exact Or.inl rfl | exact Or.inr rfl)) (pgs_cons (pg_name (i := 2) sc_law_normal.nd rfl (by first | exact Or.inl rfl | exact Or.inr rfl)) pgs_nil))))
      (pss_cons (ps_setLc (i := 3) (own := [("_law_size", 5)]) (by rfl) sc_law_normal.nd rfl rfl (sw_true rfl rfl rfl (by decide +kernel)) (pi_range2 (by rfl) T.b_range (pa_cons pe_int (pa_cons (pe_op op_add (pe_callB call_len_str (by rfl) T.b_len PySem.boot_len (pa_cons (pv 2) pa_nil)) pe_int) pa_nil))) (blkOk_by (own := [("_law_size", 5)]) (N := ["_law_row", "_law_prefix", "_law_cycle", "_law_sizes", "_law_turn", "_law_size"]) (sc := defScope s_g_law_normal) (by decide +kernel)) (fun _ _ _ _ _ => (pg_name (i := 5) sc_law_normal.nd rfl (by first | exact Or.inl rfl | exact Or.inr rfl))) (fun _ _ _ _ _ => (pts_one (pt_cmpR op_eq (pe_op op_mod (pe_callB call_len_str (by rfl) T.b_len PySem.boot_len (pa_cons (pv 2) pa_nil)) (pv 5)) pe_int (nomark _)))) (fun _ _ _ _ _ => (pv 5)))
      (pss_cons (ps_set (i := 2) sc_law_normal.nd rfl (by first | exact Or.inl rfl | exact Or.inr rfl) (pe_ix (ix_listK K) (pe_lc (own := [("_law_size", 5)]) (by rfl) sc_law_normal.nd (pi_list (pv 3)) (blkOk_by (own := [("_law_size", 5)]) (N := ["_law_row", "_law_prefix", "_law_cycle", "_law_sizes", "_law_turn", "_law_size"]) (sc := defScope s_g_law_normal) (by decide +kernel)) (fun _ _ _ _ _ => (pg_name (i := 5) sc_law_normal.nd rfl (by first | exact Or.inl rfl | exact Or.inr rfl))) (fun _ _ _ _ _ => (pts_one (pt_cmpR op_eq (pe_op op_mul_str (pe_slice sl_str (pv 2) po_none (po_some (pv 5))) (pe_op op_fdiv (pe_callB call_len_str (by rfl) T.b_len PySem.boot_len (pa_cons (pv 2) pa_nil)) (pv 5))) (pv 2) (nomark _)))) (fun _ _ _ _ _ => (pe_slice sl_str (pv 2) po_none (po_some (pv 5))))) pe_int (fun _ _ => rfl)))
      (pss_cons (ps_for PassesOwn.never rfl (pi_range1 (by rfl) T.b_range (pa_cons (pe_callB call_len_str (by rfl) T.b_len PySem.boot_len (pa_cons (pv 1) pa_nil)) pa_nil)) (pg_name (i := 4) sc_law_normal.nd rfl (by first | exact Or.inl rfl | exact Or.inr rfl)) (pss_one (ps_if (pt_cmpR op_eq (pe_slice sl_str (pv 1) (po_some (pe_un un_neg pe_int)) po_none) (pe_slice sl_str (pv 2) (po_some (pe_un un_neg pe_int)) po_none) (nomark _)) (pss_one (ps_asg (pe_tup (pa_cons (pe_slice sl_str (pv 1) po_none (po_some (pe_un un_neg pe_int))) (pa_cons (pe_op op_add_str (pe_slice sl_str (pv 2) (po_some (pe_un un_neg pe_int)) po_none) (pe_slice sl_str (pv 2) po_none (po_some (pe_un un_neg pe_int)))) pa_nil))) (pg_tupK K (n := 2) (by rfl) (pgs_cons (pg_name (i := 1) sc_law_normal.nd rfl (by first | exact Or.inl rfl | exact Or.inr rfl)) (pgs_cons (pg_name (i := 2) sc_law_normal.nd rfl (by first | exact Or.inl rfl | exact Or.inr rfl)) pgs_nil))))) pss_nil)))
      (pss_one (ps_ret (pe_tup (pa_cons (pv 1) (pa_cons (pv 2) pa_nil))))))))), ?_⟩
    have lz : ∀ {z : Wd}, z.length ≤ 20000 → (S z).length ≤ sizeLine := fun {z} h => by
      rw [S_len, sizeLine_eq]
      omega
    have lp' : p.length ≤ 10000 := lp
    have lc' : c.length ≤ 10000 := lc
    have c1 := List.length_pos_iff.mpr hc
    have clz : (S c).length ≤ sizeLine := lz (by omega)
    have len : (S c).length = c.length := S_len c
    have lsz : ∀ {x : Nat}, x ≤ 20000 → x < sizeLine := fun {x} hx => by
      rw [sizeLine_eq]
      omega
    obtain ⟨g1, eg1⟩ : ∃ g1 : Nat → Bool, g1 = fun m => decide (c.length % m = 0) := ⟨_, rfl⟩
    obtain ⟨g2, eg2⟩ : ∃ g2 : Nat → Bool, g2 = fun m => decide (rep (c.length / m) (c.take m) = c) := ⟨_, rfl⟩
    refine ⟨_, rfl, a, _, rfl, SqT.of ha, rfl, _, _, rfl, _, _, rfl, rfl, ?_⟩
    refine ⟨_, rfl, _, rfl, clz, _, _, rfl, rfl, _, _, rfl, ⟨by omega, by omega, by rw [len]; omega, by rw [len]; omega⟩, ?_⟩
    intro D hD
    refine lc_it walk_range (fun i H' => Same H H' ∧ H' D = some (.lst (((List.range' 1 i).filter g1).map fun (m : Nat) => V.int (m : Int)))) ⟨same_new hD, upd_same⟩ (fun _ _ _ _ => trivial) ?_ ?_
    · rintro i x H1 H2 hi ⟨s1, h1⟩ ⟨rfl, rfl⟩
      rw [len] at hi
      refine ⟨rfl, ?_⟩
      have ej : (1 : Int) + (i : Int) = ((i + 1 : Nat) : Int) := by omega
      refine ⟨_, rfl, _, rfl, clz, _, rfl, _, _, rfl, rfl, (by omega), rfl, _, rfl, ?_⟩
      have em : decide (V.int (((S c).length : Int) % (1 + (i : Int))) = V.int 0) = g1 (i + 1) := by
        rw [eg1]
        show _ = decide (c.length % (i + 1) = 0)
        rw [dec_int, len, ej, ← Int.natCast_emod, Bool.eq_iff_iff, beq_iff_eq, decide_eq_true_iff]
        generalize c.length % (i + 1) = q
        omega
      rw [em, range1_succ, List.filter_append]
      cases hg : g1 (i + 1) with
      | true =>
        refine iteT ⟨_, rfl, _, h1, ?_, same_mut s1 hD, ?_⟩
        · rw [List.length_map]
          have := List.length_filter_le g1 (List.range' 1 i)
          rw [List.length_range'] at this
          exact lsz (by omega)
        · rw [upd_same, List.map_append, List.filter_cons, if_pos hg]
          show some (HO.lst (_ ++ [V.int (1 + (i : Int))])) = _
          rw [ej]
          rfl
      | false =>
        refine iteF ⟨s1, ?_⟩
        rw [List.filter_cons, if_neg (by rw [hg]; decide)]
        show H2 D = some (.lst ((List.filter g1 (List.range' 1 i) ++ []).map _))
        rw [List.append_nil]
        exact h1
    rintro H1 ⟨s1, h1⟩
    have ecl : (((S c).length : Int) + 1 - 1).toNat = c.length := by
      rw [len]
      omega
    rw [ecl] at h1
    refine ⟨_, rfl, D, rfl, ⟨_, SqL.of h1⟩, ?_⟩
    intro D2 hD2
    refine lc_it (walk_list (xs := _)) (fun i H' => Same H H' ∧ H' D = some (.lst (((List.range' 1 c.length).filter g1).map fun (m : Nat) => V.int (m : Int))) ∧ H' D2 = some (.lst (((((List.range' 1 c.length).filter g1).take i).filter g2).map fun (m : Nat) => V.str (S (c.take m)))))
      ⟨same_mut s1 (s1.free hD2), by rw [upd_ne (ne_of_none h1 hD2)]; exact h1, by rw [upd_same]; rfl⟩ (fun i H' _ h => SqL.of h.2.1) ?_ ?_
    · rintro i x H2 H3 hi ⟨s2, h2, h3⟩ ⟨rfl, hx⟩
      rw [List.getElem?_map] at hx
      obtain ⟨m, hm, rfl⟩ := Option.map_eq_some_iff.mp hx
      have mmem := List.mem_of_getElem? hm
      obtain ⟨m1, m2⟩ := List.mem_filter.mp mmem
      obtain ⟨m3, m4⟩ := range1_mem.mp m1
      have et : cutS (S c) none (some (m : Int)) = S (c.take m) := by
        rw [cut_to (by omega)]
        rfl
      have ed : ((S c).length : Int) / (m : Int) = ((c.length / m : Nat) : Int) := by
        rw [len]
        exact (Int.natCast_ediv _ _).symm
      have dl : c.length / m ≤ c.length := Nat.div_le_self _ _
      have tl : (c.take m).length = m := by rw [List.length_take]; omega
      have pl : m * (c.length / m) ≤ c.length := Nat.mul_div_le _ _
      refine ⟨rfl, ?_⟩
      refine ⟨_, rfl, _, rfl, _, rfl, _, rfl, clz, ?_⟩
      refine ⟨_, rfl, _, rfl, clz, _, rfl, ?_⟩
      refine ⟨_, _, rfl, rfl, ⟨by omega, by omega⟩, ?_⟩
      refine ⟨_, _, rfl, rfl, ?_, ?_, ?_, ?_, ?_⟩
      · rw [ed]
        exact Int.natCast_nonneg _
      · rw [ed]
        generalize c.length / m = q at dl ⊢
        omega
      · rw [et, S_len, tl]
        omega
      · rw [et, S_len, tl, ed, Int.toNat_natCast]
        exact Nat.le_trans pl (by omega)
      refine ⟨_, rfl, rfl, _, rfl, ?_⟩
      rw [et, ed, mul_S _ (Int.natCast_nonneg _), Int.toNat_natCast, dec_str]
      have tk : ((List.range' 1 c.length).filter g1).take (i + 1) = ((List.range' 1 c.length).filter g1).take i ++ [m] := by
        rw [List.take_add_one, hm]
        rfl
      have eg : decide (rep (c.length / m) (c.take m) = c) = g2 m := by rw [eg2]
      rw [eg, tk, List.filter_append]
      cases hg : g2 m with
      | true =>
        have ll : ((((List.range' 1 c.length).filter g1).take i).filter g2).length ≤ c.length := by
          refine Nat.le_trans (List.length_filter_le _ _) (Nat.le_trans (List.length_take_le' _ _) (Nat.le_trans (List.length_filter_le _ _) ?_))
          rw [List.length_range']
          exact Nat.le_refl _
        refine iteT ⟨_, rfl, _, rfl, _, rfl, _, rfl, clz, _, h3, ?_, same_mut s2 (s1.free hD2), ?_, ?_⟩
        · rw [List.length_map]
          exact lsz (by omega)
        · rw [upd_ne (ne_of_none h1 hD2)]
          exact h2
        · rw [upd_same, List.map_append, List.filter_cons, if_pos hg, et]
          rfl
      | false =>
        refine iteF ⟨s2, h2, ?_⟩
        rw [List.filter_cons, if_neg (by rw [hg]; decide)]
        show H3 D2 = some (.lst ((List.filter g2 _ ++ []).map _))
        rw [List.append_nil]
        exact h3
    rintro H2 ⟨s2, h2, h3⟩
    rw [List.length_map, List.take_length, List.filter_filter] at h3
    obtain ⟨m, rest, em, gm, m1, m2, mno⟩ := first_good (fun m => g2 m && g1 m) (n := c.length) (by
      rw [eg1, eg2]
      show (decide (rep (c.length / c.length) (c.take c.length) = c) && decide (c.length % c.length = 0)) = true
      rw [Nat.div_self c1, List.take_length, rep_one, Nat.mod_self]
      simp) c1
    rw [em, List.map_cons] at h3
    refine ⟨D2, _, 0, _, rfl, rfl, SqL.of h3, atI_nat (j := 0) rfl, ?_⟩
    obtain ⟨gm2, gm1⟩ := Bool.and_eq_true_iff.mp gm
    rw [eg2] at gm2
    have er : rep (c.length / m) (c.take m) = c := of_decide_eq_true gm2
    have pd : Prim (c.take m) := prim_least m1 hc er m2 fun j j1 j2 j3 e => by
      have := mno j j1 j2
      rw [eg1, eg2] at this
      have t2 : (decide (rep (c.length / j) (c.take j) = c) && decide (c.length % j = 0)) = false := this
      rw [decide_eq_true e, decide_eq_true j3] at t2
      cases t2
    have ld : (c.take m).length ≤ c.length := by rw [List.length_take]; omega
    have j1 : 1 ≤ c.length / m := Nat.div_pos m2 m1
    have nfd : NF (p, c) → c.take m = c := fun nf => by
      have := nf.1.2 (c.take m) _ er.symm
      rw [this, rep_one] at er
      exact er
    have edE : Eqv (p, c) (p, c.take m) := by
      have := eqv_pow p (c.take m) j1
      rw [er] at this
      exact this
    generalize c.take m = d at pd ld nfd edE ⊢
    clear h1 h2 h3 em gm mno gm1 gm2 er
    have plz : (S p).length ≤ sizeLine := lz (by omega)
    refine ⟨_, rfl, _, rfl, plz, _, rfl, (by omega), (by rw [S_len]; omega), ?_⟩
    refine for_it walk_range (fun i σ H' => Same H H' ∧ ∃ r4 p1 d1, σ = [some (V.ref a), some (V.str (S p1)), some (V.str (S d1)), some (V.ref D), r4, none] ∧ Eqv (p, c) (p1, d1) ∧ Prim d1 ∧ p1.length ≤ p.length ∧ d1.length ≤ c.length ∧ (NF (p, c) → p1 = p ∧ d1 = c)) ⟨s2, _, p, d, rfl, edE, pd, Nat.le_refl _, ld, fun n => ⟨rfl, nfd n⟩⟩ (fun _ _ _ _ _ => trivial) ?_ ?_
    · rintro i x σ H3 H4 hi ⟨s3, r4, p1, d1, rfl, E1, P1, l1, l2, nf1⟩ ⟨rfl, rfl⟩
      obtain ⟨e, y, rfl⟩ := snoc_of P1.1
      have dlz : (S (e ++ [y])).length ≤ sizeLine := lz (by omega)
      have p1z : (S p1).length ≤ sizeLine := lz (by omega)
      refine ⟨_, rfl, _, rfl, _, rfl, _, rfl, p1z, ?_⟩
      refine ⟨_, rfl, _, rfl, _, rfl, _, rfl, dlz, rfl, _, rfl, ?_⟩
      rw [cut_last]
      by_cases h0 : p1 = []
      · subst h0
        rw [cut_last_nil, dec_str]
        refine iteF ?_
        exact ⟨s3, _, _, _, rfl, E1, P1, l1, l2, nf1⟩
      · obtain ⟨q, z, rfl⟩ := snoc_of h0
        rw [cut_last, dec_str]
        refine ite2 (fun hz => ?_) (fun hz => ?_)
        · have hz' : z = y := (List.cons.inj (of_decide_eq_true hz)).1
          subst hz'
          rw [List.length_append, List.length_singleton] at l1 l2
          refine ⟨_, rfl, _, rfl, _, rfl, _, rfl, p1z, ?_⟩
          refine ⟨_, rfl, _, rfl, _, rfl, _, rfl, dlz, ?_⟩
          refine ⟨_, rfl, _, rfl, _, rfl, _, rfl, dlz, ?_⟩
          refine ⟨_, _, rfl, rfl, ?_, (by show 2 ≤ sizeLine; decide), fun b hb => ?_⟩
          · rw [cut_last, cut_butlast, S_len, S_len]
            show 1 + e.length ≤ sizeLine
            rw [sizeLine_eq]
            omega
          · refine ⟨b, _, rfl, SqT.of upd_same, rfl, _, _, rfl, _, _, rfl, rfl, same_mut s3 (s3.free hb), some (V.int (0 + (i : Int))), q, z :: e, ?_, E1.trans (eqv_rot q e z), P1.rot, by omega, by rw [List.length_cons]; omega, fun n => ?_⟩
            · rw [cut_last, cut_butlast, cut_butlast, S_cat]
              rfl
            · exfalso
              obtain ⟨n1, n2⟩ := nf1 n
              refine n.2 z ?_ ?_
              · show p.getLast? = some z
                rw [← n1]
                simp
              · show c.getLast? = some z
                rw [← n2]
                simp
        · exact ⟨s3, _, _, _, rfl, E1, P1, l1, l2, nf1⟩
    · rintro σ H3 ⟨s3, r4, p1, d1, rfl, E1, P1, l1, l2, nf1⟩
      refine ⟨_, rfl, _, rfl, (by show 2 ≤ sizeLine; decide), fun b hb => ?_⟩
      exact k b (p1, d1) _ (s3.trans (same_new hb)) upd_same (fun n => by rw [(nf1 n).1, (nf1 n).2]) E1 l1 l2
def let1 (t : Tag) : Wd := t.1.cps.toList
def letL (ts : List Tag) : Wd := (ts.map let1).flatten
theorem letL_len {ts : List Tag} (h : ∀ t ∈ ts, (let1 t).length = 1) : (letL ts).length = ts.length := by
  unfold letL
  induction ts with
  | nil => rfl
  | cons t ts ih =>
    rw [List.map_cons, List.flatten_cons, List.length_append, ih fun t' h' => h t' (List.mem_cons_of_mem _ h'), h t List.mem_cons_self, List.length_cons]
    omega
theorem join_tags (ts : List Tag) : Txt.join (S []) (ts.map (·.1)) = S (letL ts) := by
  have e : ts.map (·.1) = (ts.map let1).map S := by
    rw [List.map_map]
    refine List.map_congr_left fun t _ => ?_
    exact (S_tl t.1).symm
  rw [e, join_nil]
  rfl
theorem lens_tags {ts : List Tag} (h : ∀ t ∈ ts, (let1 t).length = 1) : ((ts.map (·.1)).map (·.length)).sum = ts.length := by
  induction ts with
  | nil => rfl
  | cons t ts ih =>
    rw [List.map_cons, List.map_cons, List.sum_cons, ih fun t' h' => h t' (List.mem_cons_of_mem _ h'), List.length_cons]
    have := h t List.mem_cons_self
    have e : t.1.length = 1 := by
      unfold let1 at this
      rw [Array.length_toList] at this
      exact this
    omega
theorem wk_tags {g : Gph} {u v : Nd} {ts : List Tag} (h : Wk g u ts v) : ∀ t ∈ ts, ∃ p k, (t, k) ∈ look g p := by
  induction h with
  | nil u => exact fun t ht => by cases ht
  | @cons u v w t ts he _ ih =>
    intro t' ht'
    rcases List.mem_cons.mp ht' with e | e
    · subst e
      exact ⟨u, v, he⟩
    · exact ih t' e
theorem lc_first {K : PySem.W.Frag} {σ : L2.St} {H : Hp} {i : Nat} {Q : VK} {tl : TE} (Ex : List Tag → Prop) (hlen : ∀ ts, Ex ts → ts.length ≤ 1000) (hl : ∀ R : VK, (∀ l H1 tvs ts, Same H H1 → H1 l = some (.lst tvs) → Paired (TagV H1) tvs ts → Ex ts → R (.ref l) H1) → tl σ H R)
    (hw : ∀ x, wipe ((wipe σ [i]).set i x) [i] = wipe σ [i]) (hx : ∀ x, ((wipe σ [i]).set i x)[i]? = some x)
    (k : ∀ ts D H', Ex ts → Same H H' → H' D = some (.lst ((ts.map (·.1)).map V.str)) → Q (.ref D) H') :
    tLc (iList K tl) (gName i) tYes (tOp (rIxT K) (tVar i) (tC (.int 0))) [i] σ H Q := by
  refine hl _ fun l H0 tvs ts s0 hH pw ex => ⟨l, rfl, ⟨tvs, SqL.of hH⟩, fun D hD => ?_⟩
  refine lc_it (walk_list (xs := tvs)) (fun n H' => Same H0 H' ∧ H' D = some (.lst (((ts.take n).map (·.1)).map V.str))) ⟨same_new hD, upd_same⟩ (fun n H' _ p => SqL.of (p.1 _ _ hH)) ?_ ?_
  · rintro n x H1 H2 hn ⟨s1, hv⟩ ⟨rfl, hxn⟩
    obtain ⟨t, ht, a, rfl, ha⟩ := paired_get pw hxn
    have e1 := s1 _ _ ha
    have tk : (ts.take (n + 1)) = ts.take n ++ [t] := by rw [List.take_add_one, ht]; rfl
    refine ⟨hw _, ?_⟩
    unfold tYes
    refine iteT ⟨_, hx _, a, _, 0, _, rfl, rfl, SqT.of e1, atI_nat (j := 0) rfl, _, hv, ?_, same_mut s1 hD, ?_⟩
    · rw [List.length_map, List.length_map, sizeLine_eq]
      have := List.length_take_le' n ts
      have := hlen ts ex
      omega
    · rw [upd_same, tk, List.map_append, List.map_append]
      rfl
  · rintro H1 ⟨s1, hv⟩
    rw [paired_len pw, List.take_length] at hv
    exact k ts D H1 ex (s0.trans s1) hv
def sp_row_along : Sp := fun vs H Q _ => ∃ (d b w : Addr) (kvs : List (Nd × V)) (g : Gph) (u0 u : Nd) (ts : List Tag), vs = [.ref d, .ref b, .ref w] ∧ GphAt H d kvs g ∧ GOk' g ∧ H b = some (.tup (u0.map kV)) ∧ u0 ∈ gkeys g ∧ WalkV H (.ref w) u ts ∧ Reach (outs g) u0 u ∧ ts ≠ [] ∧ ts.length ≤ 300 ∧
  (∀ t ∈ ts, (let1 t).length = 1) ∧ (∀ p e, e ∈ look g p → (let1 e.1).length = 1) ∧
  ∀ b' r' H' ps, Same H H' → RowAt H' b' r' → Wk g u0 ps u → NF r' → Eqv (letL ps, letL ts) r' → r'.1.length ≤ 60 → r'.2.length ≤ 300 → Q (.ref b') H'
theorem sc_row_along : FnScope ["edges", "begin", "walk", "node", "tags", "prefix", "tag"] ["edges", "begin", "walk"] (defScope s_g_row_along) := ⟨rfl, rfl, rfl, by decide +kernel, rfl, by decide +kernel, by decide +kernel⟩
theorem ok_row_along (T : Tp K mg) (G_path_between : GOk P w K mg base "path_between" 1 ["edges", "begin", "end"] sp_path_between) (G_shortened : GOk P w K mg base "shortened" 2 ["row"] sp_shortened) : GOk P w K mg base "row_along" 3 ["edges", "begin", "walk"] sp_row_along := by
  refine gok_of (st := s_g_row_along) T.fd_g_row_along T.g_row_along sc_row_along (fun _ _ _ _ _ _ us hl => match us, hl with | [_, _, _], _ => rfl) (fun vs H Q E h => ?_) (fun cdv A outer s H vs Q E hr h => ?_)
  · obtain ⟨d, b, w, kvs, g, u0, u, ts, rfl, _⟩ := h
    rfl
  · obtain ⟨d, b, w, kvs, g, u0, u, ts, rfl, GA, ok, hb, hu0, ⟨wa, un, wl, tvs, ew, hw, hun, hwl, pts⟩, re, tne, tl, l1, lall, k⟩ := h
    cases ew
    have hu := hu_of hr
    refine ⟨_, (pss_cons (ps_asg (pv 2) (pg_tupK K (n := 2) (by rfl) (pgs_cons (pg_name (i := 3) sc_row_along.nd rfl (by first | exact Or.inl rfl | exact Or.inr rfl)) (pgs_cons (pg_name (i := 4) sc_row_along.nd rfl (by first | exact Or.inl rfl | exact Or.inr rfl)) pgs_nil))))
      (pss_cons (ps_set (i := 5) sc_row_along.nd rfl (by first | exact Or.inl rfl | exact Or.inr rfl) (pe_join pe_str (pe_lc (own := [("tag", 6)]) (by rfl) sc_row_along.nd (pi_list (pe_g G_path_between (hr.mono (by decide)) (pa_cons (pv 0) (pa_cons (pv 1) (pa_cons (pv 3) pa_nil))))) (blkOk_by (own := [("tag", 6)]) (N := ["edges", "begin", "walk", "node", "tags", "prefix", "tag"]) (sc := defScope s_g_row_along) (by decide +kernel)) (fun _ _ _ _ _ => (pg_name (i := 6) sc_row_along.nd rfl (by first | exact Or.inl rfl | exact Or.inr rfl))) (fun _ _ _ _ _ => pts_nil) (fun _ _ _ _ _ => (pe_ix (ix_tupK K) (pv 6) pe_int (fun _ _ => rfl))))))
      (pss_one (ps_ret (pe_g G_shortened (hr.mono (by decide)) (pa_cons (pe_tup (pa_cons (pv 5) (pa_cons (pe_join pe_str (pe_lc (own := [("tag", 6)]) (by rfl) sc_row_along.nd (pi_list (pv 4)) (blkOk_by (own := [("tag", 6)]) (N := ["edges", "begin", "walk", "node", "tags", "prefix", "tag"]) (sc := defScope s_g_row_along) (by decide +kernel)) (fun _ _ _ _ _ => (pg_name (i := 6) sc_row_along.nd rfl (by first | exact Or.inl rfl | exact Or.inr rfl))) (fun _ _ _ _ _ => pts_nil) (fun _ _ _ _ _ => (pe_ix (ix_tupK K) (pv 6) pe_int (fun _ _ => rfl))))) pa_nil))) pa_nil)))))), ?_⟩
    have lz : ∀ {z : Wd}, z.length ≤ 20000 → (S z).length ≤ sizeLine := fun {z} h => by
      rw [S_len, sizeLine_eq]
      omega
    refine ⟨_, rfl, w, _, rfl, SqT.of hw, rfl, _, _, rfl, _, _, rfl, rfl, ?_⟩
    refine ⟨⟨_, rfl⟩, ?_⟩
    refine lc_first (fun ps => Wk g u0 ps u ∧ ps.length ≤ 60) (fun _ h => by have := h.2; omega) (fun R hR => ?_) (fun _ => rfl) (fun _ => rfl) (fun ps D1 H1 ex s1 hD1 => ?_)
    · exact ⟨_, rfl, _, rfl, _, rfl, d, b, un, kvs, g, u0, u, rfl, GA, ok, hb, hun, hu0, re, fun l H1 ptv ps s1 nl hl pps wk lps => hR l H1 ptv ps s1 hl pps ⟨wk, lps⟩⟩
    obtain ⟨wk, lps⟩ := ex
    have l2 : ∀ t ∈ ps, (let1 t).length = 1 := fun t ht => let ⟨p, k, h⟩ := wk_tags wk t ht; lall p (t, k) h
    refine ⟨S [], D1, ps.map (·.1), rfl, rfl, .inl (SqL.of hD1), ?_, ?_⟩
    · rw [lens_tags l2]
      show ps.length + (ps.map (·.1)).length * 0 ≤ 16777216
      omega
    rw [join_tags]
    refine ⟨_, rfl, ⟨_, rfl⟩, ?_⟩
    refine lc_first (fun ts' => ts' = ts) (fun _ h => by rw [h]; omega) (fun R hR => ?_) (fun _ => rfl) (fun _ => rfl) (fun ts' D2 H2 ex s2 hD2 => ?_)
    · exact ⟨_, rfl, hR wl H1 tvs ts (Same.refl _) (s1 _ _ hwl) (paired_imp pts fun _ _ r => r.mono (.of s1)) rfl⟩
    subst ex
    refine ⟨S [], D2, ts'.map (·.1), rfl, rfl, .inl (SqL.of hD2), ?_, ?_⟩
    · rw [lens_tags l1]
      show ts'.length + (ts'.map (·.1)).length * 0 ≤ 16777216
      omega
    rw [join_tags]
    have le1 := letL_len l1
    have le2 := letL_len l2
    refine ⟨(by show 2 ≤ sizeLine; decide), fun q hq => ?_⟩
    refine ⟨q, (letL ps, letL ts'), rfl, upd_same, ?_, ?_, ?_, fun b' r' hb' nf ev q1 q2 => ?_⟩
    · intro e
      have : (letL ts').length = 0 := by rw [show letL ts' = [] from e]; rfl
      rw [le1] at this
      exact tne (List.length_eq_zero_iff.mp this)
    · show (letL ps).length ≤ 10000
      omega
    · show (letL ts').length ≤ 10000
      omega
    · refine k b' r' _ ps ((s1.trans s2).trans ((same_new hq).trans (same_new hb'))) upd_same wk nf ev ?_ ?_
      · have : r'.1.length ≤ (letL ps).length := q1
        omega
      · have : r'.2.length ≤ (letL ts').length := q2
        omega
end
end K42
set_option Elab.async false
set_option linter.all false
set_option maxRecDepth 100000
set_option maxHeartbeats 4000000
namespace K42
open PySem PySem.Spec PyProof.Rows L2

open SX
structure GR (g : Gph) (u0 : Nd) : Prop where
  ok : GOk' g
  start : u0 ∈ gkeys g
  reach : ∀ u ∈ gkeys g, Reach (outs g) u0 u
  one : ∀ p e, e ∈ look g p → (let1 e.1).length = 1
structure Found (g : Gph) (u0 u : Nd) (ps ts : List Tag) (r : Wd × Wd) : Prop where
  begin : Wk g u0 ps u
  round : Wk g u ts u
  ne : ts ≠ []
  nf : NF r
  eqv : Eqv (letL ps, letL ts) r
  l1 : r.1.length ≤ 60
  l2 : r.2.length ≤ 300
def sp_parity_fault : Sp := fun vs H Q _ => ∃ (b d : Addr) (par : Int) (kvs : List (Nd × V)) (g : Gph) (u0 : Nd), vs = [.ref b, .ref d, .int par] ∧ GphAt H d kvs g ∧ GR g u0 ∧ H b = some (.tup (u0.map kV)) ∧
  (∀ H', Same H H' → Q .non H') ∧ ∀ (q b' : Addr) (r : Wd × Wd) (H' : Hp) (u : Nd) (ps ts : List Tag) (x y : Nat), Same H H' → H' q = some (.tup [.str "verdict", .ref b']) → RowAt H' b' r → Found g u0 u ps ts r → (∀ t ∈ ts, t.2.1 ≤ x ∧ t.2.2 ≤ y) → (∃ t ∈ ts, t.2.1 = x) → (∃ t ∈ ts, t.2.2 = y) →
    ((x : Int) + y) % 2 = par → Q (.ref q) H'
section
variable {P : Program} {w : World} {K : PySem.W.Frag} {mg : Str → Option Value} {base : Heap}
theorem sc_parity_fault : FnScope ["begin", "edges", "parity", "first", "second", "walk"] ["begin", "edges", "parity"] (defScope s_g_parity_fault) := ⟨rfl, rfl, rfl, by decide +kernel, rfl, by decide +kernel, by decide +kernel⟩
theorem ok_parity_fault (T : Tp K mg) (G_cycle_with : GOk P w K mg base "cycle_with" 4 ["edges", "first", "second"] sp_cycle_with) (G_row_along : GOk P w K mg base "row_along" 3 ["edges", "begin", "walk"] sp_row_along) : GOk P w K mg base "parity_fault" 5 ["begin", "edges", "parity"] sp_parity_fault := by
  refine gok_of (st := s_g_parity_fault) T.fd_g_parity_fault T.g_parity_fault sc_parity_fault (fun _ _ _ _ _ _ us hl => match us, hl with | [_, _, _], _ => rfl) (fun vs H Q E h => ?_) (fun cdv A outer s H vs Q E hr h => ?_)
  · obtain ⟨b, d, par, kvs, g, u0, rfl, _⟩ := h
    rfl
  · obtain ⟨b, d, par, kvs, g, u0, rfl, GA, R, hb, kn, kw⟩ := h
    have hu := hu_of hr
    refine ⟨_, (pss_cons (ps_for PassesOwn.never rfl (pi_range1 (by rfl) T.b_range (pa_cons (pe_op op_add (pe_gi T.MAX_PRIORITY) pe_int) pa_nil)) (pg_name (i := 3) sc_parity_fault.nd rfl (by first | exact Or.inl rfl | exact Or.inr rfl)) (pss_one (ps_for PassesOwn.never rfl (pi_range1 (by rfl) T.b_range (pa_cons (pe_op op_add (pe_gi T.MAX_PRIORITY) pe_int) pa_nil)) (pg_name (i := 4) sc_parity_fault.nd rfl (by first | exact Or.inl rfl | exact Or.inr rfl)) (pss_cons (ps_set (i := 5) sc_parity_fault.nd rfl (by first | exact Or.inl rfl | exact Or.inr rfl) (pe_ifExp (pt_cmpR op_eq (pe_op op_mod (pe_op op_add (pv 3) (pv 4)) pe_int) (pv 2) (nomark _)) (pe_g G_cycle_with (hr.mono (by decide)) (pa_cons (pv 1) (pa_cons (pv 3) (pa_cons (pv 4) pa_nil)))) pe_non))
      (pss_one (ps_if (pt_cmpR op_notN (pv 5) pe_non (nomark _)) (pss_one (ps_ret (pe_tup (pa_cons pe_str (pa_cons (pe_g G_row_along (hr.mono (by decide)) (pa_cons (pv 1) (pa_cons (pv 0) (pa_cons (pv 5) pa_nil)))) pa_nil))))) pss_nil))))))
      (pss_one (ps_ret pe_non))), ?_⟩
    refine ⟨_, _, rfl, rfl, _, rfl, (by decide), (by decide), ?_⟩
    refine for_it walk_range (fun i σ H' => Same H H' ∧ ∃ r3 r4 r5, σ = [some (V.ref b), some (V.ref d), some (V.int par), r3, r4, r5]) ⟨Same.refl _, _, _, _, rfl⟩ (fun _ _ _ _ _ => trivial) ?_ ?_
    · rintro x v σ H1 H2 hx ⟨s1, r3, r4, r5, rfl⟩ ⟨rfl, rfl⟩
      refine ⟨_, _, rfl, rfl, _, rfl, (by decide), (by decide), ?_⟩
      refine for_it walk_range (fun i σ H' => Same H H' ∧ ∃ r4 r5, σ = [some (V.ref b), some (V.ref d), some (V.int par), some (V.int (0 + (x : Int))), r4, r5]) ⟨s1, _, _, rfl⟩ (fun _ _ _ _ _ => trivial) ?_ ?_
      · rintro y v σ H3 H4 hy ⟨s2, r4, r5, rfl⟩ ⟨rfl, rfl⟩
        have GA2 := GA.mono s2
        refine ⟨_, rfl, _, rfl, _, _, rfl, rfl, _, _, rfl, rfl, (by show (0 : Int) < 2; decide), _, rfl, rfl, _, rfl, ?_⟩
        refine ite2 (fun hc => ?_) (fun hc => ?_)
        · have hc' : (0 + (x : Int) + (0 + (y : Int))) % 2 = par := V.int.inj (of_decide_eq_true hc)
          refine ⟨_, rfl, _, rfl, _, rfl, d, _, _, kvs, g, rfl, GA2, R.ok, fun H5 s3 => ?_, fun v H5 u ts s3 wv wk all ea eb tne tl uk => ?_⟩
          · refine ⟨_, rfl, rfl, _, rfl, ?_⟩
            exact iteF ⟨s2.trans s3, _, _, rfl⟩
          · refine ⟨_, rfl, ?_⟩
            obtain ⟨w, na, wl, tvs, rfl, hw, hna, hwl, pts⟩ := _root_.id wv
            refine ⟨rfl, _, rfl, ?_⟩
            refine iteT ?_
            refine ⟨_, rfl, _, rfl, _, rfl, d, b, w, kvs, g, u0, u, ts, rfl, GA2.mono s3, R.ok, s3 _ _ (s2 _ _ hb), R.start, wv, R.reach u uk, tne, tl, fun t ht => ?_, R.one, fun b' r' H6 ps s4 hr wk0 nf ev q1 q2 => ⟨(by show 2 ≤ sizeLine; decide), fun q hq => ?_⟩⟩
            · obtain ⟨p, k, h⟩ := wk_tags wk t ht
              exact R.one p (t, k) h
            · refine kw q b' r' _ u ps ts x y (((s2.trans s3).trans s4).trans (same_new hq)) upd_same ((same_new hq) _ _ hr) ⟨wk0, wk, tne, nf, ev, q1, q2⟩ (fun t ht => ?_) ?_ ?_ ?_
              · have := all t ht
                rw [Int.zero_add, Int.zero_add] at this
                exact this
              · rw [Int.zero_add] at ea
                exact ea
              · rw [Int.zero_add] at eb
                exact eb
              · rw [Int.zero_add, Int.zero_add] at hc'
                exact hc'
        · refine ⟨_, rfl, rfl, _, rfl, ?_⟩
          exact iteF ⟨s2, _, _, rfl⟩
      · rintro σ H3 ⟨s2, r4, r5, rfl⟩
        exact ⟨s2, _, _, _, rfl⟩
    · rintro σ H1 ⟨s1, r3, r4, r5, rfl⟩
      exact kn H1 s1
end
end K42
set_option Elab.async false
set_option linter.all false
set_option maxRecDepth 100000
namespace K42
open PySem PySem.Spec PyProof.Rows L2 SX
theorem look_nil : ∀ {g : Gph} {u : Nd}, u ∉ gkeys g → look g u = []
  | [], u, _ => rfl
  | p :: r, u, h => by
    have h1 : u ≠ p.1 := fun e => h (by rw [e]; exact List.mem_cons_self)
    show (if p.1 = u then p.2 else look r u) = []
    rw [if_neg (fun e => h1 e.symm)]
    exact look_nil fun q => h (List.mem_cons_of_mem _ q)
theorem look_app : ∀ {g g' : Gph} {u : Nd}, u ∈ gkeys g → look (g ++ g') u = look g u
  | [], _, u, h => by cases h
  | p :: r, g', u, h => by
    show (if p.1 = u then p.2 else look (r ++ g') u) = (if p.1 = u then p.2 else look r u)
    by_cases e : p.1 = u
    · rw [if_pos e, if_pos e]
    · rw [if_neg e, if_neg e]
      refine look_app ?_
      rcases List.mem_cons.mp h with q | q
      · exact absurd q.symm e
      · exact q
theorem look_new : ∀ {g g' : Gph} {u : Nd}, u ∉ gkeys g → look (g ++ g') u = look g' u
  | [], _, u, h => rfl
  | p :: r, g', u, h => by
    show (if p.1 = u then p.2 else look (r ++ g') u) = _
    rw [if_neg (fun e => h (by rw [← e]; exact List.mem_cons_self))]
    exact look_new fun q => h (List.mem_cons_of_mem _ q)
theorem gkeys_app (g : Gph) (u : Nd) (es : List Edge) : gkeys (g ++ [(u, es)]) = gkeys g ++ [u] := by
  unfold gkeys
  rw [List.map_append]
  rfl
section
variable (succ : Nd → List Edge) (Okn : Nd → Prop) (allN : List Nd)
structure PGd : Prop where
  mem : ∀ u, Okn u → u ∈ allN
  len : allN.length ≤ 36
  clo : ∀ u, Okn u → ∀ e ∈ succ u, Okn e.2
  deg : ∀ u, (succ u).length ≤ 4
  one : ∀ u, ∀ e ∈ succ u, (let1 e.1).length = 1
def nxt (u : Nd) : List Nd := (succ u).map (·.2)
structure BI (u0 : Nd) (g : Gph) (ln : List Nd) : Prop where
  nd : (gkeys g).Nodup
  key : ∀ u ∈ gkeys g, Okn u ∧ Reach (nxt succ) u0 u
  lnk : ∀ u ∈ ln, Okn u ∧ Reach (nxt succ) u0 u
  val : ∀ u ∈ gkeys g, look g u = succ u
  clo : ∀ u ∈ gkeys g, ∀ e ∈ succ u, e.2 ∈ gkeys g ∨ e.2 ∈ ln
  st : u0 ∈ gkeys g ∨ u0 ∈ ln
end
section
variable {succ : Nd → List Edge} {Okn : Nd → Prop} {allN : List Nd} {u0 u : Nd} {g : Gph} {ln : List Nd}
theorem BI.start (h : Okn u0) : BI succ Okn u0 [] [u0] := by
  refine ⟨List.nodup_nil, fun u h => (by cases h), fun u hu => ?_, fun u h => (by cases h), fun u h => (by cases h), .inr (by simp)⟩
  have e : u = u0 := by simpa using hu
  subst e
  exact ⟨h, .refl _⟩
theorem BI.skip (b : BI succ Okn u0 g (u :: ln)) (h : u ∈ gkeys g) : BI succ Okn u0 g ln :=
  ⟨b.nd, b.key, fun v hv => b.lnk v (List.mem_cons_of_mem _ hv), b.val, fun v hv e he => by
    rcases b.clo v hv e he with q | q
    · exact .inl q
    · rcases List.mem_cons.mp q with q | q
      · exact .inl (q ▸ h)
      · exact .inr q, by
    rcases b.st with q | q
    · exact .inl q
    · rcases List.mem_cons.mp q with q | q
      · exact .inl (q ▸ h)
      · exact .inr q⟩
theorem BI.add (P : PGd succ Okn allN) (b : BI succ Okn u0 g (u :: ln)) (h : u ∉ gkeys g) : BI succ Okn u0 (g ++ [(u, succ u)]) (ln ++ (succ u).map (·.2)) := by
  have hu := b.lnk u List.mem_cons_self
  have up : ∀ v, v ∈ gkeys g ∨ v ∈ u :: ln → v ∈ gkeys (g ++ [(u, succ u)]) ∨ v ∈ ln ++ (succ u).map (·.2) := fun v hv => by
    rw [gkeys_app]
    rcases hv with q | q
    · exact .inl (List.mem_append_left _ q)
    · rcases List.mem_cons.mp q with q | q
      · exact .inl (List.mem_append_right _ (by rw [q]; exact List.mem_cons_self))
      · exact .inr (List.mem_append_left _ q)
  refine ⟨?_, fun v hv => ?_, fun v hv => ?_, fun v hv => ?_, fun v hv e he => ?_, up _ b.st⟩
  · rw [gkeys_app]
    refine List.nodup_append.mpr ⟨b.nd, by simp, fun x hx y hy => ?_⟩
    have e : y = u := by simpa using hy
    exact fun q => h (by rw [← e, ← q]; exact hx)
  · rw [gkeys_app] at hv
    rcases List.mem_append.mp hv with q | q
    · exact b.key v q
    · have e : v = u := by simpa using q
      exact e ▸ hu
  · rcases List.mem_append.mp hv with q | q
    · exact b.lnk v (List.mem_cons_of_mem _ q)
    · obtain ⟨e, he, rfl⟩ := List.mem_map.mp q
      exact ⟨P.clo u hu.1 e he, hu.2.trans (.step (List.mem_map.mpr ⟨e, he, rfl⟩) (.refl _))⟩
  · rw [gkeys_app] at hv
    by_cases q : v ∈ gkeys g
    · rw [look_app q]
      exact b.val v q
    · rcases List.mem_append.mp hv with z | z
      · exact absurd z q
      · have e : v = u := by simpa using z
        subst e
        rw [look_new q]
        show (if v = v then succ v else _) = succ v
        rw [if_pos rfl]
  · rw [gkeys_app] at hv
    rcases List.mem_append.mp hv with q | q
    · exact up _ (b.clo v q e he)
    · have e2 : v = u := by simpa using q
      subst e2
      exact .inr (List.mem_append_right _ (List.mem_map.mpr ⟨e, he, rfl⟩))
theorem BI.len (P : PGd succ Okn allN) (b : BI succ Okn u0 g ln) : g.length ≤ 36 := by
  have := b.nd.length_le_of_subset (l₂ := allN) fun v hv => P.mem v (b.key v hv).1
  unfold gkeys at this
  rw [List.length_map] at this
  exact Nat.le_trans this P.len
theorem BI.len' (P : PGd succ Okn allN) (b : BI succ Okn u0 g (u :: ln)) (h : u ∉ gkeys g) : g.length + 1 ≤ 36 := by
  have := (b.add P h).len P
  rw [List.length_append] at this
  exact this
theorem BI.done (P : PGd succ Okn allN) (b : BI succ Okn u0 g []) : GR g u0 := by
  have st : u0 ∈ gkeys g := by
    rcases b.st with q | q
    · exact q
    · cases q
  have clo : ∀ v ∈ gkeys g, ∀ e ∈ look g v, e.2 ∈ gkeys g := fun v hv e he => by
    rw [b.val v hv] at he
    rcases b.clo v hv e he with q | q
    · exact q
    · cases q
  have cases_ : ∀ v, v ∈ gkeys g ∨ look g v = [] := fun v => (Classical.em (v ∈ gkeys g)).imp id look_nil
  refine ⟨⟨b.nd, clo, Nat.le_trans (b.len P) (by decide), fun v => ?_⟩, st, fun v hv => ?_, fun v e he => ?_⟩
  · rcases cases_ v with q | q
    · rw [b.val v q]
      exact Nat.le_trans (P.deg v) (by decide)
    · rw [q]
      exact Nat.zero_le _
  · have : ∀ {a c : Nd}, Reach (nxt succ) a c → a ∈ gkeys g → Reach (outs g) a c := by
      intro a c r
      induction r with
      | refl => exact fun _ => .refl _
      | @step a x c hx _ ih =>
        intro ha
        obtain ⟨e, he, rfl⟩ := List.mem_map.mp hx
        have he' : e ∈ look g a := by rw [b.val a ha]; exact he
        exact .step (List.mem_map.mpr ⟨e, he', rfl⟩) (ih (clo a ha e he'))
    exact this (b.key v hv).2 st
  · rcases cases_ v with q | q
    · rw [b.val v q] at he
      exact P.one v e he
    · rw [q] at he
      cases he
end
def nd3 (a b c : Nat) : Nd := [Sum.inl (a : Int), Sum.inl (b : Int), Sum.inl (c : Int)]
theorem nd3_inj {a b c a' b' c' : Nat} (h : nd3 a b c = nd3 a' b' c') : a = a' ∧ b = b' ∧ c = c' := by
  unfold nd3 at h
  obtain ⟨h1, h⟩ := List.cons.inj h
  obtain ⟨h2, h⟩ := List.cons.inj h
  obtain ⟨h3, _⟩ := List.cons.inj h
  have := Sum.inl.inj h1
  have := Sum.inl.inj h2
  have := Sum.inl.inj h3
  omega
def de (u : Nd) : Nat × Nat × Nat := match u with
  | [Sum.inl a, Sum.inl b, Sum.inl c] => (a.toNat, b.toNat, c.toNat)
  | _ => (0, 0, 0)
theorem de_nd (a b c : Nat) : de (nd3 a b c) = (a, b, c) := rfl
def prio (D g : Nat → Nat → Nat) (s : Nat) (w : Wd) : Int := if w = [] then -1 else (mx D g s w : Int)
structure Pd where
  D : Nat → Nat → Nat
  f1 : Nat → Nat → Wd
  f2 : Nat → Nat → Wd
  D1 : Nat → Nat → Nat
  g1 : Nat → Nat → Nat
  D2 : Nat → Nat → Nat
  g2 : Nat → Nat → Nat
  L : List Nat
  n1 : Nat
  n : Nat
  n2 : Nat
def Pd.edge (p : Pd) (s1 s s2 c : Nat) : Edge := ((S [c], prio p.D1 p.g1 s1 (p.f1 s c), prio p.D2 p.g2 s2 (p.f2 s c)), nd3 (runL p.D1 s1 (p.f1 s c)) (p.D s c) (runL p.D2 s2 (p.f2 s c)))
def Pd.succ (p : Pd) (u : Nd) : List Edge := p.L.map (p.edge (de u).1 (de u).2.1 (de u).2.2)
def Pd.okn (p : Pd) (u : Nd) : Prop := ∃ a b c, u = nd3 a b c ∧ a < p.n1 ∧ b < p.n ∧ c < p.n2
def Pd.all (p : Pd) : List Nd := (List.range p.n1).flatMap fun a => (List.range p.n).flatMap fun b => (List.range p.n2).map fun c => nd3 a b c
structure Pd.Ok (p : Pd) : Prop where
  h1 : p.n1 ≤ 3
  h : p.n ≤ 4
  h2 : p.n2 ≤ 3
  l : p.L.length ≤ 4
  d : ∀ s c, s < p.n → c ∈ p.L → p.D s c < p.n
  d1 : ∀ s1 s c, s1 < p.n1 → s < p.n → c ∈ p.L → runL p.D1 s1 (p.f1 s c) < p.n1
  d2 : ∀ s2 s c, s2 < p.n2 → s < p.n → c ∈ p.L → runL p.D2 s2 (p.f2 s c) < p.n2
theorem flat_len {α β : Type} (k : Nat) (f : α → List β) : ∀ l : List α, (∀ a ∈ l, (f a).length = k) → (l.flatMap f).length = l.length * k
  | [], _ => by simp
  | a :: l, h => by
    rw [List.flatMap_cons, List.length_append, h a List.mem_cons_self, flat_len k f l fun b hb => h b (List.mem_cons_of_mem _ hb), List.length_cons, Nat.succ_mul, Nat.add_comm]
theorem Pd.all_len (p : Pd) : p.all.length = p.n1 * (p.n * p.n2) := by
  unfold Pd.all
  rw [flat_len (p.n * p.n2) _ _ fun a _ => ?_, List.length_range]
  rw [flat_len p.n2 _ _ fun b _ => ?_, List.length_range]
  rw [List.length_map, List.length_range]
theorem Pd.pgd {p : Pd} (ok : p.Ok) : PGd p.succ p.okn p.all := by
  refine ⟨?_, ?_, ?_, ?_, ?_⟩
  · rintro u ⟨a, b, c, rfl, ha, hb, hc⟩
    exact List.mem_flatMap.mpr ⟨a, List.mem_range.mpr ha, List.mem_flatMap.mpr ⟨b, List.mem_range.mpr hb, List.mem_map.mpr ⟨c, List.mem_range.mpr hc, rfl⟩⟩⟩
  · rw [p.all_len]
    have h2 := Nat.mul_le_mul ok.h ok.h2
    exact Nat.le_trans (Nat.mul_le_mul ok.h1 h2) (by decide)
  · rintro u ⟨a, b, c, rfl, ha, hb, hc⟩ e he
    obtain ⟨x, hx, rfl⟩ := List.mem_map.mp he
    exact ⟨_, _, _, rfl, ok.d1 a b x ha hb hx, ok.d b x hb hx, ok.d2 c b x hc hb hx⟩
  · intro u
    unfold Pd.succ
    rw [List.length_map]
    exact ok.l
  · intro u e he
    obtain ⟨x, hx, rfl⟩ := List.mem_map.mp he
    rfl
structure Pd.Gr (p : Pd) (g : Gph) : Prop where
  okn : ∀ u ∈ gkeys g, p.okn u
  val : ∀ u ∈ gkeys g, look g u = p.succ u
def mx1 (ts : List Tag) : Int := ts.foldr (fun t m => max t.2.1 m) (-1)
def mx2 (ts : List Tag) : Int := ts.foldr (fun t m => max t.2.2 m) (-1)
theorem mx1_of {ts : List Tag} {x : Int} (hx : -1 ≤ x) (h : ∀ t ∈ ts, t.2.1 ≤ x) (e : ∃ t ∈ ts, t.2.1 = x) : mx1 ts = x := by
  have le : ∀ ts : List Tag, (∀ t ∈ ts, t.2.1 ≤ x) → mx1 ts ≤ x := by
    intro ts
    induction ts with
    | nil => exact fun _ => hx
    | cons t ts ih => exact fun h => Int.max_le.mpr ⟨h t List.mem_cons_self, ih fun t' h' => h t' (List.mem_cons_of_mem _ h')⟩
  have ge : ∀ ts : List Tag, (∃ t ∈ ts, t.2.1 = x) → x ≤ mx1 ts := by
    intro ts
    induction ts with
    | nil => exact fun ⟨_, h, _⟩ => by cases h
    | cons t ts ih =>
      rintro ⟨t', h', e⟩
      show x ≤ max t.2.1 (mx1 ts)
      rcases List.mem_cons.mp h' with q | q
      · subst q
        rw [e]
        exact Int.le_max_left _ _
      · exact Int.le_trans (ih ⟨t', q, e⟩) (Int.le_max_right _ _)
  exact Int.le_antisymm (le ts h) (ge ts e)
theorem mx2_of {ts : List Tag} {x : Int} (hx : -1 ≤ x) (h : ∀ t ∈ ts, t.2.2 ≤ x) (e : ∃ t ∈ ts, t.2.2 = x) : mx2 ts = x := by
  have := mx1_of (ts := ts.map fun t => (t.1, t.2.2, t.2.1)) hx (fun t ht => by
    obtain ⟨t', h', rfl⟩ := List.mem_map.mp ht
    exact h t' h') (by
    obtain ⟨t', h', e'⟩ := e
    exact ⟨_, List.mem_map.mpr ⟨t', h', rfl⟩, e'⟩)
  unfold mx1 at this
  rw [List.foldr_map] at this
  exact this
theorem prio_app {D g : Nat → Nat → Nat} (s : Nat) (a b : Wd) : prio D g s (a ++ b) = max (prio D g s a) (prio D g (runL D s a) b) := by
  unfold prio
  by_cases ha : a = []
  · subst ha
    rw [List.nil_append, if_pos rfl]
    show (if b = [] then (-1 : Int) else (mx D g s b : Int)) = max (-1) (if b = [] then (-1 : Int) else (mx D g s b : Int))
    split <;> omega
  · rw [if_neg ha, if_neg (fun e => ha (List.append_eq_nil_iff.mp e).1), mx_app]
    split
    · rename_i hb
      subst hb
      show ((max (mx D g s a) 0 : Nat) : Int) = _
      omega
    · omega
theorem walk_reads {p : Pd} {g : Gph} (G : p.Gr g) (ok : GOk' g) {u v : Nd} {ts : List Tag} (wk : Wk g u ts v) : ∀ {a b c : Nat}, u = nd3 a b c → u ∈ gkeys g →
    v = nd3 (runL p.D1 a (outL p.D p.f1 b (letL ts))) (runL p.D b (letL ts)) (runL p.D2 c (outL p.D p.f2 b (letL ts))) ∧ (∀ x ∈ letL ts, x ∈ p.L) ∧ mx1 ts = prio p.D1 p.g1 a (outL p.D p.f1 b (letL ts)) ∧ mx2 ts = prio p.D2 p.g2 c (outL p.D p.f2 b (letL ts)) := by
  induction wk with
  | nil u =>
    intro a b c e _
    exact ⟨e, fun x hx => (by cases hx), rfl, rfl⟩
  | @cons u x v t ts he _ ih =>
    intro a b c e hu
    have hx := ok.clo u hu _ he
    have he2 := he
    rw [G.val u hu, e] at he2
    obtain ⟨y, hy, ey⟩ := List.mem_map.mp he2
    rw [de_nd] at ey
    have et : t = (p.edge a b c y).1 := congrArg Prod.fst ey.symm
    have ex : x = (p.edge a b c y).2 := congrArg Prod.snd ey.symm
    obtain ⟨i1, i2, i3, i4⟩ := ih ex hx
    have el : letL (t :: ts) = y :: letL ts := by
      unfold letL
      rw [List.map_cons, List.flatten_cons, et]
      rfl
    rw [el]
    refine ⟨?_, fun z hz => ?_, ?_, ?_⟩
    · show v = nd3 (runL p.D1 a (p.f1 b y ++ outL p.D p.f1 (p.D b y) (letL ts))) _ (runL p.D2 c (p.f2 b y ++ outL p.D p.f2 (p.D b y) (letL ts)))
      rw [runL_app, runL_app]
      exact i1
    · rcases List.mem_cons.mp hz with q | q
      · exact q ▸ hy
      · exact i2 z q
    · show max t.2.1 (mx1 ts) = prio p.D1 p.g1 a (p.f1 b y ++ outL p.D p.f1 (p.D b y) (letL ts))
      rw [prio_app, i3, et]
      rfl
    · show max t.2.2 (mx2 ts) = prio p.D2 p.g2 c (p.f2 b y ++ outL p.D p.f2 (p.D b y) (letL ts))
      rw [prio_app, i4, et]
      rfl
end K42
set_option Elab.async false
set_option linter.all false
set_option maxRecDepth 100000
set_option maxHeartbeats 4000000
namespace K42
open PySem PySem.Spec PyProof.Rows L2

open SX
theorem lc_true {J : It} {n : Nat} {G : Hp → Prop} {Y : Nat → Hp → V → Hp → Prop} (w : Walk J n G Y) {g : TG} {te : TE} {vs : List Nat} {σ : L2.St} {H0 H : Hp} {D : Addr} {Qd : Hp → Prop} (s0 : Same H0 H) (hD : H D = none) (hG : ∀ H', Same H H' → G H') (hn : n ≤ 1000) (hY : ∀ i H x H', Y i H x H' → H' = H)
    (hs : ∀ i x H1 (R : VK), i < n → Same H H1 → Y i H1 x H1 → R (.bl true) H1 → g x (wipe σ vs) H1 fun σ2 H2 => wipe σ2 vs = wipe σ vs ∧ te σ2 H2 R)
    (k : ∀ (H' : Hp) (bs : List Bool), Same H0 H' → H' D = some (.lst (bs.map V.bl)) → bs.all id = true → Qd H') :
    ∃ W : Nat → Nat → Hp → Prop, (∃ m, W 0 m (upd H D (.lst []))) ∧ ∀ i m H, W i m H →
      (J.stop i H ∧ Qd H) ∨ (J.go i H ∧ ∃ Nx : Hp → Prop, (∀ H', Nx H' → ∃ m', m' < m ∧ W (i + 1) m' H') ∧ ∀ x H', J.yld i H x H' → g x (wipe σ vs) H' fun σ2 H2 => wipe σ2 vs = wipe σ vs ∧ tYes σ2 H2 fun b H3 =>
        if b = true then te σ2 H3 fun y H4 => ∃ acc, H4 D = some (.lst acc) ∧ acc.length < sizeLine ∧ Nx (upd H4 D (.lst (acc ++ [y]))) else Nx H3) := by
  refine lc_it w (fun i H' => Same H H' ∧ H' D = some (.lst ((List.replicate i true).map V.bl))) ⟨same_new hD, upd_same⟩ (fun i H' _ p => hG H' p.1) ?_ ?_
  · rintro i x H1 H2 hi ⟨s1, h1⟩ y
    have e := hY i H1 x H2 y
    subst e
    refine hs i x H2 _ hi s1 y ⟨_, h1, ?_, same_mut s1 hD, ?_⟩
    · rw [List.length_map, List.length_replicate, sizeLine_eq]
      omega
    · rw [upd_same, List.replicate_succ', List.map_append]
      rfl
  · rintro H1 ⟨s1, h1⟩
    exact k H1 (List.replicate n true) (s0.trans s1) h1 (by simp)
theorem iteF' {c A B : Prop} [Decidable c] (h : ¬ c) (b : B) : if c then A else B := by rw [if_neg h]; exact b
def lowerL : Wd := ("abcdefghijklmnopqrstuvwxyz" : Str).cps.toList
structure Alpha (ls : Wd) : Prop where
  pos : 1 ≤ ls.length
  le : ls.length ≤ 3
  low : ∀ c ∈ ls, c ∈ lowerL
  up : ∀ i x y, ls[i]? = some x → ls[i + 1]? = some y → x < y
def sp_is_alphabet : Sp := fun vs H Q _ => ∃ ls, vs = [.str (S ls)] ∧ Alpha ls ∧ ∀ H', Same H H' → Q (.bl true) H'
def sp_need_alphabet : Sp := fun vs H Q _ => ∃ ls, vs = [.str (S ls)] ∧ Alpha ls ∧ ∀ H', Same H H' → Q .non H'
theorem lit_len {ls : Wd} (h : ls.length ≤ 1000) : (S ls).length ≤ sizeLine := by
  rw [S_len, sizeLine_eq]
  omega
section
variable {P : Program} {w : World} {K : PySem.W.Frag} {mg : Str → Option Value} {base : Heap}
theorem sc_is_alphabet : FnScope ["letters", "place", "sign"] ["letters"] (defScope s_g_is_alphabet) := ⟨rfl, rfl, rfl, by decide +kernel, rfl, by decide +kernel, by decide +kernel⟩
theorem ok_is_alphabet (T : Tp K mg)  : GOk P w K mg base "is_alphabet" 1 ["letters"] sp_is_alphabet := by
  refine gok_of (st := s_g_is_alphabet) T.fd_g_is_alphabet T.g_is_alphabet sc_is_alphabet (fun _ _ _ _ _ _ us hl => match us, hl with | [_], _ => rfl) (fun vs H Q E h => ?_) (fun cdv A outer s H vs Q E hr h => ?_)
  · obtain ⟨ls, rfl, _⟩ := h
    rfl
  · obtain ⟨ls, rfl, al, k⟩ := h
    have hu := hu_of hr
    refine ⟨_, (pss_cons (ps_if (PW.pt (pw_or (pt_not (pt_chain op_le op_le pe_int (pe_callB call_len_str (by rfl) T.b_len PySem.boot_len (pa_cons (pv 0) pa_nil)) (pe_gi T.MAX_LETTERS))) (pw_or1 (pt_not (pt_val (pe_callB (cr_all rfl) (by rfl) T.b_all (by decide +kernel) (pa_cons (pe_lc (own := [("sign", 2)]) (by rfl) sc_is_alphabet.nd (pi_str (pv 0)) (blkOk_by (own := [("sign", 2)]) (N := ["letters", "place", "sign"]) (sc := defScope s_g_is_alphabet) (by decide +kernel)) (fun _ _ _ _ _ => (pg_name (i := 2) sc_is_alphabet.nd rfl (by first | exact Or.inl rfl | exact Or.inr rfl))) (fun _ _ _ _ _ => pts_nil) (fun _ _ _ _ _ => (pe_cmpR op_in_sign (pv 2) (pe_gs T.LOWERCASE) (by rfl)))) pa_nil))))))) (pss_one (ps_ret pe_bl)) pss_nil)
      (pss_one (ps_ret (pe_callB (cr_all rfl) (by rfl) T.b_all (by decide +kernel) (pa_cons (pe_lc (own := [("place", 1)]) (by rfl) sc_is_alphabet.nd (pi_range1 (by rfl) T.b_range (pa_cons (pe_op op_sub (pe_callB call_len_str (by rfl) T.b_len PySem.boot_len (pa_cons (pv 0) pa_nil)) pe_int) pa_nil)) (blkOk_by (own := [("place", 1)]) (N := ["letters", "place", "sign"]) (sc := defScope s_g_is_alphabet) (by decide +kernel)) (fun _ _ _ _ _ => (pg_name (i := 1) sc_is_alphabet.nd rfl (by first | exact Or.inl rfl | exact Or.inr rfl))) (fun _ _ _ _ _ => pts_nil) (fun _ _ _ _ _ => (pe_cmpR op_lt_str (pe_ix ix_str (pv 0) (pv 1) (fun _ _ => rfl)) (pe_ix ix_str (pv 0) (pe_op op_add (pv 1) pe_int) (fun _ _ => rfl)) (nomark _)))) pa_nil))))), ?_⟩
    have len : (S ls).length = ls.length := S_len ls
    have p1 := al.pos
    have p2 := al.le
    have lz : (S ls).length ≤ sizeLine := lit_len (by omega)
    refine ⟨_, rfl, _, rfl, lz, _, _, rfl, rfl, _, rfl, ?_⟩
    have c1 : decide ((1 : Int) ≤ ((S ls).length : Int)) = true := decide_eq_true (by rw [len]; omega)
    have c2 : decide (((S ls).length : Int) ≤ (3 : Int)) = true := decide_eq_true (by rw [len]; omega)
    rw [c1]
    refine iteT ?_
    refine ⟨_, _, rfl, rfl, _, rfl, ?_⟩
    rw [c2]
    refine iteF ?_
    refine ⟨_, rfl, _, rfl, fun D hD => ?_⟩
    refine lc_true walk_str (Same.refl _) hD (fun _ _ => trivial) (by show ls.toArray.size ≤ 1000; rw [List.size_toArray]; omega) (fun _ _ _ _ y => y.1) (fun i x H1 R hi s1 y hR => ?_) (fun H1 bs s1 hD1 eb => ?_)
    · obtain ⟨_, c, hc, rfl⟩ := y
      refine ⟨rfl, _, rfl, c, _, rfl, rfl, ?_⟩
      have hm : c ∈ ls := by
        have : ls.toArray[i]? = some c := hc
        rw [List.getElem?_toArray] at this
        exact List.mem_of_getElem? this
      have hl : decide (c ∈ (("abcdefghijklmnopqrstuvwxyz" : Str)).cps.toList) = true := decide_eq_true (al.low c hm)
      rw [hl]
      exact hR
    refine ⟨D, bs, rfl, SqL.of hD1, ?_⟩
    rw [eb]
    refine ⟨_, rfl, ?_⟩
    refine iteF ?_
    refine ⟨_, rfl, _, rfl, lz, _, _, rfl, rfl, _, rfl, (by rw [len]; omega), (by rw [len]; omega), fun D2 hD2 => ?_⟩
    refine lc_true walk_range s1 hD2 (fun _ _ => trivial) (by rw [len]; omega) (fun _ _ _ _ y => y.1) (fun i x H1 R hi s2 y hR => ?_) (fun H2 bs s2 hD2 eb2 => ?_)
    · obtain ⟨_, rfl⟩ := y
      rw [len] at hi
      have i2 : i + 1 < ls.length := by omega
      have g1 : ls[i]? = some (ls[i]'(by omega)) := List.getElem?_eq_getElem (by omega)
      have g2 : ls[i + 1]? = some (ls[i + 1]'i2) := List.getElem?_eq_getElem i2
      have lt := al.up i _ _ g1 g2
      have ej : (0 : Int) + (i : Int) = ((i : Nat) : Int) := by omega
      have ej2 : (0 : Int) + (i : Int) + 1 = ((i + 1 : Nat) : Int) := by omega
      refine ⟨rfl, _, rfl, _, rfl, _, _, ls[i]'(by omega), rfl, rfl, lz, by rw [ej]; exact atI_nat g1, _, rfl, _, rfl, _, _, rfl, rfl, _, _, ls[i + 1]'i2, rfl, rfl, lz, by rw [ej2]; exact atI_nat g2, _, _, rfl, rfl, ?_⟩
      have hl : decide ((⟨#[ls[i]'(by omega)]⟩ : Str).cps.toList < (⟨#[ls[i + 1]'i2]⟩ : Str).cps.toList) = true := decide_eq_true (List.cons_lt_cons_iff.mpr (.inl lt))
      rw [hl]
      exact hR
    refine ⟨D2, bs, rfl, SqL.of hD2, ?_⟩
    rw [eb2]
    exact k H2 s2
theorem sc_need_alphabet : FnScope ["letters"] ["letters"] (defScope s_g_need_alphabet) := ⟨rfl, rfl, rfl, by decide +kernel, rfl, by decide +kernel, by decide +kernel⟩
theorem ok_need_alphabet (T : Tp K mg) (G_is_alphabet : GOk P w K mg base "is_alphabet" 1 ["letters"] sp_is_alphabet) : GOk P w K mg base "need_alphabet" 2 ["letters"] sp_need_alphabet := by
  refine gok_of (st := s_g_need_alphabet) T.fd_g_need_alphabet T.g_need_alphabet sc_need_alphabet (fun _ _ _ _ _ _ us hl => match us, hl with | [_], _ => rfl) (fun vs H Q E h => ?_) (fun cdv A outer s H vs Q E hr h => ?_)
  · obtain ⟨ls, rfl, _⟩ := h
    rfl
  · obtain ⟨ls, rfl, al, k⟩ := h
    have hu := hu_of hr
    refine ⟨_, (pss_one (ps_if (pt_not (pt_val (pe_g G_is_alphabet (hr.mono (by decide)) (pa_cons (pv 0) pa_nil)))) (pss_one ps_never) pss_nil)), ?_⟩
    refine ⟨_, rfl, ls, rfl, al, fun H1 s1 => ⟨_, rfl, ?_⟩⟩
    exact iteF (k H1 s1)
structure Raw where
  ls : Wd
  tb : List (List (Nat × Nat))
  st : Nat
structure RawOk (r : Raw) : Prop where
  al : Alpha r.ls
  n1 : 1 ≤ r.tb.length
  n3 : r.tb.length ≤ 3
  row : ∀ x ∈ r.tb, x.length = r.ls.length
  ent : ∀ x ∈ r.tb, ∀ e ∈ x, e.1 < r.tb.length ∧ e.2 ≤ 3
  st : r.st < r.tb.length
def PrV (H : Hp) (v : V) (e : Nat × Nat) : Prop := ∃ a, v = .ref a ∧ H a = some (.tup [.int e.1, .int e.2])
theorem PrV.mono {H H' : Hp} {v : V} {e : Nat × Nat} (t : TSame H H') (h : PrV H v e) : PrV H' v e := let ⟨a, e, q⟩ := h; ⟨a, e, t a _ q⟩
def sp_is_state : Sp := fun vs H Q _ => ∃ (p : Addr) (ws : List V) (row : List (Nat × Nat)) (n : Nat), vs = [.ref p, .int row.length, .int n] ∧ H p = some (.tup ws) ∧ Paired (PrV H) ws row ∧ row.length ≤ 3 ∧ (∀ e ∈ row, e.1 < n ∧ e.2 ≤ 3) ∧ ∀ H', Same H H' → Q (.bl true) H'
theorem sc_is_state : FnScope ["state", "width", "count", "target", "priority", "pair"] ["state", "width", "count"] (defScope s_g_is_state) := ⟨rfl, rfl, rfl, by decide +kernel, rfl, by decide +kernel, by decide +kernel⟩
theorem ok_is_state (T : Tp K mg)  : GOk P w K mg base "is_state" 1 ["state", "width", "count"] sp_is_state := by
  refine gok_of (st := s_g_is_state) T.fd_g_is_state T.g_is_state sc_is_state (fun _ _ _ _ _ _ us hl => match us, hl with | [_, _, _], _ => rfl) (fun vs H Q E h => ?_) (fun cdv A outer s H vs Q E hr h => ?_)
  · obtain ⟨p, ws, row, n, rfl, _⟩ := h
    rfl
  · obtain ⟨p, ws, row, n, rfl, hp, pw, r3, re, k⟩ := h
    have hu := hu_of hr
    refine ⟨_, (pss_cons (ps_if (PW.pt (pw_or (pt_cmpR op_ne (pe_callB (len_seqK K) (by rfl) T.b_len PySem.boot_len (pa_cons (pv 0) pa_nil)) (pv 1) (nomark _)) (pw_or1 (pt_not (pt_val (pe_callB (cr_all rfl) (by rfl) T.b_all (by decide +kernel) (pa_cons (pe_lc (own := [("pair", 5)]) (by rfl) sc_is_state.nd (pi_tup (pv 0)) (blkOk_by (own := [("pair", 5)]) (N := ["state", "width", "count", "target", "priority", "pair"]) (sc := defScope s_g_is_state) (by decide +kernel)) (fun _ _ _ _ _ => (pg_name (i := 5) sc_is_state.nd rfl (by first | exact Or.inl rfl | exact Or.inr rfl))) (fun _ _ _ _ _ => pts_nil) (fun _ _ _ _ _ => (pe_cmpR op_eq (pe_callB (len_seqK K) (by rfl) T.b_len PySem.boot_len (pa_cons (pv 5) pa_nil)) pe_int (nomark _)))) pa_nil))))))) (pss_one (ps_ret pe_bl)) pss_nil)
      (pss_one (ps_ret (pe_callB (cr_all rfl) (by rfl) T.b_all (by decide +kernel) (pa_cons (pe_lc (own := [("target", 3), ("priority", 4)]) (by rfl) sc_is_state.nd (pi_tup (pv 0)) (blkOk_by (own := [("target", 3), ("priority", 4)]) (N := ["state", "width", "count", "target", "priority", "pair"]) (sc := defScope s_g_is_state) (by decide +kernel)) (fun _ _ _ _ _ => (pg_tupK K (n := 2) (by rfl) (pgs_cons (pg_name (i := 3) sc_is_state.nd rfl (by first | exact Or.inl rfl | exact Or.inr rfl)) (pgs_cons (pg_name (i := 4) sc_is_state.nd rfl (by first | exact Or.inl rfl | exact Or.inr rfl)) pgs_nil)))) (fun _ _ _ _ _ => pts_nil) (fun _ _ _ _ _ => (pe_and (pe_chain op_le op_lt pe_int (pv 3) (pv 2)) (pe_one (pe_chain op_le op_le pe_int (pv 4) (pe_gi T.MAX_PRIORITY)))))) pa_nil))))), ?_⟩
    have lw := paired_len pw
    refine ⟨_, rfl, p, ws, rfl, .inr (SqT.of hp), _, rfl, rfl, _, rfl, ?_⟩
    have e0 : (!decide (V.int ((ws.length : Nat) : Int) = V.int ((row.length : Nat) : Int))) = false := by rw [lw]; simp
    rw [e0]
    refine iteF ?_
    refine ⟨_, rfl, p, rfl, ⟨ws, SqT.of hp⟩, fun D hD => ?_⟩
    refine lc_true (walk_tup (xs := ws)) (Same.refl _) hD (fun _ s => SqT.of (s _ _ hp)) (by omega) (fun _ _ _ _ y => y.1) (fun i x H1 R hi s1 y hR => ?_) (fun H1 bs s1 hD1 eb => ?_)
    · obtain ⟨_, hx⟩ := y
      obtain ⟨e, he, a, rfl, ha⟩ := paired_get pw hx
      exact ⟨rfl, _, rfl, a, _, rfl, .inr (SqT.of (s1 _ _ ha)), rfl, hR⟩
    refine ⟨D, bs, rfl, SqL.of hD1, ?_⟩
    rw [eb]
    refine ⟨_, rfl, ?_⟩
    refine iteF ?_
    refine ⟨_, rfl, p, rfl, ⟨ws, SqT.of (s1 _ _ hp)⟩, fun D2 hD2 => ?_⟩
    refine lc_true (walk_tup (xs := ws)) s1 hD2 (fun _ s => SqT.of (s _ _ (s1 _ _ hp))) (by omega) (fun _ _ _ _ y => y.1) (fun i x H2 R hi s2 y hR => ?_) (fun H2 bs s2 hD2 eb2 => ?_)
    · obtain ⟨_, hx⟩ := y
      obtain ⟨e, he, a, rfl, ha⟩ := paired_get pw hx
      have hr := re e (List.mem_of_getElem? he)
      refine ⟨a, _, rfl, SqT.of (s2 _ _ (s1 _ _ ha)), rfl, _, _, rfl, _, _, rfl, rfl, rfl, ?_⟩
      have c1 : decide ((0 : Int) ≤ (e.1 : Int)) = true := decide_eq_true (by omega)
      have c2 : decide ((e.1 : Int) < (n : Int)) = true := decide_eq_true (by omega)
      have c3 : decide ((0 : Int) ≤ (e.2 : Int)) = true := decide_eq_true (by omega)
      have c4 : decide ((e.2 : Int) ≤ (3 : Int)) = true := decide_eq_true (by omega)
      refine ⟨_, rfl, _, _, rfl, rfl, _, rfl, ?_⟩
      rw [c1]
      refine iteT ⟨_, rfl, _, _, rfl, rfl, _, rfl, ?_⟩
      rw [c2]
      refine iteT ⟨_, rfl, _, _, rfl, rfl, _, rfl, ?_⟩
      rw [c3]
      refine iteT ⟨_, _, rfl, rfl, ?_⟩
      show R (V.bl (decide ((e.2 : Int) ≤ 3))) H2
      rw [c4]
      exact hR
    refine ⟨D2, bs, rfl, SqL.of hD2, ?_⟩
    rw [eb2]
    exact k H2 s2
def TabP {α : Type} (F : Hp → V → α → Prop) (H : Hp) (l : Addr) (tb : List (List α)) : Prop := ∃ vs, H l = some (.lst vs) ∧ Paired (fun v row => TupOf (F H) H v row) vs tb
theorem TabP.mono {α : Type} {F : Hp → V → α → Prop} (hF : ∀ {H H' : Hp} {v : V} {e : α}, TSame H H' → F H v e → F H' v e) {H H' : Hp} {l : Addr} {tb : List (List α)} (s : Same H H') (h : TabP F H l tb) : TabP F H' l tb := by
  obtain ⟨vs, h1, h2⟩ := h
  refine ⟨vs, s _ _ h1, paired_imp h2 fun v row r => ?_⟩
  obtain ⟨p, ws, e, h3, h4⟩ := r
  exact ⟨p, ws, e, s _ _ h3, paired_imp h4 fun _ _ q => hF (.of s) q⟩
def MacV (K : PySem.W.Frag) (H : Hp) (a : Addr) (r : Raw) : Prop := ∃ dx l, H a = some (.ins (He.ga K "Machine") dx [("alphabet", .str (S r.ls)), ("table", .ref l), ("first", .int r.st)]) ∧ TabP PrV H l r.tb
theorem MacV.mono {K : PySem.W.Frag} {H H' : Hp} {a : Addr} {r : Raw} (s : Same H H') (h : MacV K H a r) : MacV K H' a r := by
  obtain ⟨dx, l, h1, h2⟩ := h
  exact ⟨dx, l, s _ _ h1, h2.mono (fun t q => q.mono t) s⟩
theorem TupOf.monoT {α : Type} {F : Hp → V → α → Prop} (hF : ∀ {H H' : Hp} {v : V} {e : α}, TSame H H' → F H v e → F H' v e) {H H' : Hp} {v : V} {xs : List α} (t : TSame H H') (h : TupOf (F H) H v xs) : TupOf (F H') H' v xs := by
  obtain ⟨p, ws, e, h3, h4⟩ := h
  exact ⟨p, ws, e, t _ _ h3, paired_imp h4 fun _ _ q => hF t q⟩
theorem lc_tuples {K : PySem.W.Frag} {α : Type} {F : Hp → V → α → Prop} (hF : ∀ {H H' : Hp} {v : V} {e : α}, TSame H H' → F H v e → F H' v e) {σ : L2.St} {H : Hp} {i : Nat} {Q : VK} {l : Addr} {tb : List (List α)} {tl : TE} (hl : ∀ R : VK, R (.ref l) H → tl σ H R) (ht : TabP F H l tb) (hlen : tb.length ≤ 1000)
    (hw : ∀ x, wipe ((wipe σ [i]).set i x) [i] = wipe σ [i]) (hx : ∀ x, ((wipe σ [i]).set i x)[i]? = some x)
    (k : ∀ D H', Same H H' → H D = none → TabP F H' D tb → Q (.ref D) H') :
    tLc (iList K tl) (gName i) tYes (tCB (rTupOf K) (tCons (tVar i) tNil)) [i] σ H Q := by
  obtain ⟨vs, hH, pw⟩ := ht
  refine hl _ ⟨l, rfl, ⟨vs, SqL.of hH⟩, fun D hD => ?_⟩
  refine lc_it (walk_list (xs := vs)) (fun n H' => Same H H' ∧ H' D = some (.lst (vs.take n))) ⟨same_new hD, upd_same⟩ (fun n H' _ p => SqL.of (p.1 _ _ hH)) ?_ ?_
  · rintro n x H1 H2 hn ⟨s1, hv⟩ ⟨rfl, hxn⟩
    obtain ⟨row, hr, p, ws, rfl, hp, pws⟩ := paired_get pw hxn
    refine ⟨hw _, ?_⟩
    unfold tYes
    refine iteT ⟨_, hx _, p, ws, rfl, .inr ⟨SqT.of (s1 _ _ hp), _, hv, ?_, same_mut s1 hD, ?_⟩⟩
    · rw [sizeLine_eq]
      have := List.length_take_le' n vs
      have := paired_len pw
      omega
    · rw [upd_same, List.take_add_one, hxn]
      rfl
  · rintro H1 ⟨s1, hv⟩
    rw [List.take_length] at hv
    exact k D H1 s1 hD ⟨vs, hv, paired_imp pw fun v row r => TupOf.monoT (F := F) (fun t q => hF t q) (.of s1) r⟩
def sp_Machine_init (K : PySem.W.Frag) : Sp := fun vs H Q _ => ∃ (a dx l : Addr) (r : Raw), vs = [.ref a, .str (S r.ls), .ref l, .int r.st] ∧ H a = some (.ins (He.ga K "Machine") dx []) ∧ TabP PrV H l r.tb ∧ RawOk r ∧ ∀ H', SameX a H H' → MacV K H' a r → Q .non H'
theorem sc_Machine_init : FnScope ["self", "letters", "states", "start", "number", "state"] ["self", "letters", "states", "start"] (defScope s_m_Machine_init) := ⟨rfl, rfl, rfl, by decide +kernel, rfl, by decide +kernel, by decide +kernel⟩
theorem ok_Machine_init (T : Tp K mg) (G_need_alphabet : GOk P w K mg base "need_alphabet" 2 ["letters"] sp_need_alphabet) (G_is_state : GOk P w K mg base "is_state" 1 ["state", "width", "count"] sp_is_state) : COk P w K mg base "Machine" 3 2 ["start"] ["self", "letters", "states", "start"] (sp_Machine_init K) := by
  refine cok_of (st := s_m_Machine_init) T.fd_m_Machine_init T.g_Machine T.mk_Machine sc_Machine_init (fun _ _ _ _ _ _ us ws h1 h2 => match us, ws, h1, h2 with | [_, _, _], [_], _, _ => rfl) (fun vs H Q E h => ?_) (fun cdv A outer s H vs Q E hr h => ?_)
  · obtain ⟨a, dx, l, r, rfl, _⟩ := h
    rfl
  · obtain ⟨a, dx, l, r, rfl, ha, ⟨vs, hl, pw⟩, ok, k⟩ := h
    have hu := hu_of hr
    refine ⟨_, (pss_cons (ps_expr (pe_g G_need_alphabet (hr.mono (by decide)) (pa_cons (pv 1) pa_nil)))
      (pss_cons (ps_if (pt_cmpR op_gt (pe_callB (len_seqK K) (by rfl) T.b_len PySem.boot_len (pa_cons (pv 2) pa_nil)) (pe_gi T.MAX_STATES) (nomark _)) (pss_one ps_never) pss_nil)
      (pss_cons (ps_if (pt_cmpR op_eq (pe_callB (len_seqK K) (by rfl) T.b_len PySem.boot_len (pa_cons (pv 2) pa_nil)) pe_int (nomark _)) (pss_one ps_never) pss_nil)
      (pss_cons (ps_for PassesOwn.never rfl (pi_enum (by rfl) T.b_enumerate (pa_cons (pv 2) pa_nil)) (pg_tupK K (n := 2) (by rfl) (pgs_cons (pg_name (i := 4) sc_Machine_init.nd rfl (by first | exact Or.inl rfl | exact Or.inr rfl)) (pgs_cons (pg_name (i := 5) sc_Machine_init.nd rfl (by first | exact Or.inl rfl | exact Or.inr rfl)) pgs_nil))) (pss_one (ps_if (pt_not (pt_val (pe_g G_is_state (hr.mono (by decide)) (pa_cons (pv 5) (pa_cons (pe_callB call_len_str (by rfl) T.b_len PySem.boot_len (pa_cons (pv 1) pa_nil)) (pa_cons (pe_callB (len_seqK K) (by rfl) T.b_len PySem.boot_len (pa_cons (pv 2) pa_nil)) pa_nil)))))) (pss_one ps_never) pss_nil)))
      (pss_cons (ps_if (pt_not (pt_chain op_le op_lt pe_int (pv 3) (pe_callB (len_seqK K) (by rfl) T.b_len PySem.boot_len (pa_cons (pv 2) pa_nil)))) (pss_one ps_never) pss_nil)
      (pss_cons (ps_fld (pv 0) (pv 1) rfl)
      (pss_cons (ps_fld (pv 0) (pe_lc (own := [("state", 5)]) (by rfl) sc_Machine_init.nd (pi_list (pv 2)) (blkOk_by (own := [("state", 5)]) (N := ["self", "letters", "states", "start", "number", "state"]) (sc := defScope s_m_Machine_init) (by decide +kernel)) (fun _ _ _ _ _ => (pg_name (i := 5) sc_Machine_init.nd rfl (by first | exact Or.inl rfl | exact Or.inr rfl))) (fun _ _ _ _ _ => pts_nil) (fun _ _ _ _ _ => (pe_callTy (tuple_ofK K) (by rfl) T.b_tuple (by decide +kernel) (pa_cons (pv 5) pa_nil)))) rfl)
      (pss_one (ps_fld (pv 0) (pv 3) rfl))))))))), ?_⟩
    have lw := paired_len pw
    have n1 := ok.n1
    have n3 := ok.n3
    have lz : (S r.ls).length ≤ sizeLine := lit_len (by have := ok.al.le; omega)
    have nal : l ≠ a := ne_of hl ha (fun e => nomatch e)
    refine ⟨_, rfl, _, rfl, ok.al, fun H1 s1 => ?_⟩
    have hl1 := s1 _ _ hl
    refine ⟨_, rfl, l, vs, rfl, .inl (SqL.of hl1), _, _, rfl, rfl, _, rfl, ?_⟩
    refine ite2 (fun hc => by have := of_decide_eq_true hc; omega) (fun _ => ?_)
    refine ⟨_, rfl, l, vs, rfl, .inl (SqL.of hl1), rfl, _, rfl, ?_⟩
    refine ite2 (fun hc => by have := V.int.inj (of_decide_eq_true hc); omega) (fun _ => ?_)
    refine ⟨_, rfl, l, vs, rfl, SqL.of hl1, ?_⟩
    refine for_it (walk_enum (xs := vs)) (fun i σ H' => ∃ r4 r5, σ = [some (V.ref a), some (V.str (S r.ls)), some (V.ref l), some (V.int r.st), r4, r5] ∧ Same H H') ⟨_, _, rfl, s1⟩ (fun i σ H' _ ⟨_, _, _, s⟩ => SqL.of (s _ _ hl)) ?_ ?_
    · rintro i x σ H2 H3 hi ⟨r4, r5, rfl, s2⟩ ⟨tt, n1, tv, rfl, htt, rfl, h1, h2⟩
      have en1 : V.int ((i : Nat) : Int) = n1 := Option.some.inj h1
      subst en1
      obtain ⟨row, hr, p, ws, rfl, hp, pws⟩ := paired_get pw h2
      have st := same_new (o := .tup [V.int ((i : Nat) : Int), .ref p]) htt
      have s3 := s2.trans st
      have rm := List.mem_of_getElem? hr
      have rl := ok.row row rm
      refine ⟨tt, _, rfl, SqT.of upd_same, rfl, _, _, rfl, _, _, rfl, rfl, ?_⟩
      refine ⟨_, rfl, _, rfl, _, rfl, lz, _, rfl, l, vs, rfl, .inl (SqL.of (s3 _ _ hl)), ?_⟩
      refine ⟨p, ws, row, r.tb.length, ?_, s3 _ _ hp, paired_imp pws fun _ _ q => q.mono (.of s3), by have := ok.al.le; omega, ok.ent row rm, fun H4 s4 => ⟨_, rfl, ?_⟩⟩
      · rw [S_len, rl, lw]
        rfl
      · exact iteF ⟨_, _, rfl, s3.trans s4⟩
    rintro σ H2 ⟨r4, r5, rfl, s2⟩
    have st := ok.st
    refine ⟨_, rfl, _, _, rfl, rfl, _, rfl, ?_⟩
    refine ite2 (fun hc => ?_) (fun hc => absurd (decide_eq_true (by omega)) hc)
    refine ⟨_, rfl, l, vs, rfl, .inl (SqL.of (s2 _ _ hl)), _, _, rfl, rfl, _, rfl, ?_⟩
    have c2 : decide ((r.st : Int) < ((vs.length : Nat) : Int)) = true := decide_eq_true (by omega)
    rw [c2]
    refine iteF ?_
    have ha2 := s2 _ _ ha
    refine ⟨_, rfl, _, rfl, a, _, dx, [], rfl, ha2, T.cl_Machine, T.no_Machine_alphabet, (by decide), ?_⟩
    have x3 : SameX a H (upd H2 a (.ins (He.ga K "Machine") dx (putF "alphabet" (V.str (S r.ls)) []))) := SameX.put (SameX.then (SameX.refl a H) s2)
    have a3 : (upd H2 a (.ins (He.ga K "Machine") dx (putF "alphabet" (V.str (S r.ls)) []))) a = some (.ins (He.ga K "Machine") dx [("alphabet", .str (S r.ls))]) := upd_same
    generalize upd H2 a (.ins (He.ga K "Machine") dx (putF "alphabet" (V.str (S r.ls)) [])) = H3 at x3 a3 ⊢
    have tp : TSame H H3 := x3.ts ha (fun _ e => nomatch e)
    dsimp only [tSeq, sFld]
    refine lc_tuples (F := PrV) (fun t q => q.mono t) (l := l) (tb := r.tb) (fun R hR => ⟨_, rfl, hR⟩) ⟨vs, x3 _ _ nal hl, paired_imp pw fun v row q => TupOf.monoT (F := PrV) (fun t q => q.mono t) tp q⟩ (by omega) (fun _ => rfl) (fun _ => rfl) (fun D H4 s4 nD tD => ?_)
    refine ⟨_, rfl, a, _, dx, _, rfl, s4 _ _ a3, T.cl_Machine, T.no_Machine_table, (by show 1 < 1000; decide), ?_⟩
    have nDa : D ≠ a := fun e => by
      rw [e, a3] at nD
      cases nD
    have x5 : SameX a H (upd H4 a (.ins (He.ga K "Machine") dx (putF "table" (V.ref D) [("alphabet", .str (S r.ls))]))) := SameX.put (x3.then s4)
    have a5 : (upd H4 a (.ins (He.ga K "Machine") dx (putF "table" (V.ref D) [("alphabet", .str (S r.ls))]))) a = some (.ins (He.ga K "Machine") dx [("alphabet", .str (S r.ls)), ("table", .ref D)]) := upd_same
    have d5 : TabP PrV (upd H4 a (.ins (He.ga K "Machine") dx (putF "table" (V.ref D) [("alphabet", .str (S r.ls))]))) D r.tb := by
      obtain ⟨ws, h1, h2⟩ := tD
      exact ⟨ws, by rw [upd_ne nDa]; exact h1, paired_imp h2 fun v row q => TupOf.monoT (F := PrV) (fun t q => q.mono t) ((TSame.refl _).mut (s4 _ _ a3) fun _ e => nomatch e) q⟩
    generalize upd H4 a (.ins (He.ga K "Machine") dx (putF "table" (V.ref D) [("alphabet", .str (S r.ls))])) = H5 at x5 a5 d5 ⊢
    refine ⟨_, rfl, _, rfl, a, _, dx, _, rfl, a5, T.cl_Machine, T.no_Machine_first, (by show 2 < 1000; decide), ?_⟩
    refine k _ (SameX.put x5) ⟨dx, D, upd_same, ?_⟩
    obtain ⟨ws, h1, h2⟩ := d5
    exact ⟨ws, by rw [upd_ne nDa]; exact h1, paired_imp h2 fun v row q => TupOf.monoT (F := PrV) (fun t q => q.mono t) ((TSame.refl _).mut a5 fun _ e => nomatch e) q⟩
def sp_Machine_letters (K : PySem.W.Frag) : Sp := fun vs H Q _ => ∃ (a : Addr) (r : Raw), vs = [.ref a] ∧ MacV K H a r ∧ Q (.str (S r.ls)) H
theorem sc_Machine_letters : FnScope ["self"] ["self"] (defScope s_m_Machine_letters) := ⟨rfl, rfl, rfl, by decide +kernel, rfl, by decide +kernel, by decide +kernel⟩
theorem ok_Machine_letters (T : Tp K mg)  : MOk P w K mg base "Machine" "letters" 1 ["self"] (sp_Machine_letters K) := by
  refine mok_of (st := s_m_Machine_letters) T.fd_m_Machine_letters T.cl_Machine T.me_Machine_letters sc_Machine_letters (fun _ _ _ _ _ _ us hl => match us, hl with | [_], _ => rfl) (fun vs H Q E h => ?_) (fun cdv A outer s H vs Q E hr h => ?_)
  · obtain ⟨a, r, rfl, _⟩ := h
    rfl
  · obtain ⟨a, r, rfl, ⟨dx, l, ha, _⟩, k⟩ := h
    have hu := hu_of hr
    refine ⟨_, (pss_one (ps_ret (pe_fld (pv 0) rfl))), ?_⟩
    exact ⟨_, rfl, a, _, dx, _, _, rfl, ha, T.cl_Machine, T.no_Machine_alphabet, rfl, k⟩
def sp_Machine_start (K : PySem.W.Frag) : Sp := fun vs H Q _ => ∃ (a : Addr) (r : Raw), vs = [.ref a] ∧ MacV K H a r ∧ Q (.int r.st) H
theorem sc_Machine_start : FnScope ["self"] ["self"] (defScope s_m_Machine_start) := ⟨rfl, rfl, rfl, by decide +kernel, rfl, by decide +kernel, by decide +kernel⟩
theorem ok_Machine_start (T : Tp K mg)  : MOk P w K mg base "Machine" "start" 1 ["self"] (sp_Machine_start K) := by
  refine mok_of (st := s_m_Machine_start) T.fd_m_Machine_start T.cl_Machine T.me_Machine_start sc_Machine_start (fun _ _ _ _ _ _ us hl => match us, hl with | [_], _ => rfl) (fun vs H Q E h => ?_) (fun cdv A outer s H vs Q E hr h => ?_)
  · obtain ⟨a, r, rfl, _⟩ := h
    rfl
  · obtain ⟨a, r, rfl, ⟨dx, l, ha, _⟩, k⟩ := h
    have hu := hu_of hr
    refine ⟨_, (pss_one (ps_ret (pe_fld (pv 0) rfl))), ?_⟩
    exact ⟨_, rfl, a, _, dx, _, _, rfl, ha, T.cl_Machine, T.no_Machine_first, rfl, k⟩
def rst (r : Raw) (s c : Nat) : Nat × Nat := (((r.tb[s]?).getD [])[six r.ls c]?).getD (0, 0)
def rD (r : Raw) (s c : Nat) : Nat := (rst r s c).1
def rG (r : Raw) (s c : Nat) : Nat := (rst r s c).2
theorem RawOk.at {r : Raw} (ok : RawOk r) {s c : Nat} (hs : s < r.tb.length) (hc : c ∈ r.ls) : ∃ row, r.tb[s]? = some row ∧ row[six r.ls c]? = some (rst r s c) ∧ rD r s c < r.tb.length ∧ rG r s c ≤ 3 := by
  have e1 : r.tb[s]? = some (r.tb[s]'hs) := List.getElem?_eq_getElem hs
  have rm := List.mem_of_getElem? e1
  have lt : six r.ls c < (r.tb[s]'hs).length := by rw [ok.row _ rm]; exact six_lt hc
  have e2 : (r.tb[s]'hs)[six r.ls c]? = some ((r.tb[s]'hs)[six r.ls c]'lt) := List.getElem?_eq_getElem lt
  have e3 : rst r s c = (r.tb[s]'hs)[six r.ls c]'lt := by
    unfold rst
    rw [e1, Option.getD_some, e2, Option.getD_some]
  have e4 := ok.ent _ rm _ (List.mem_of_getElem? e2)
  refine ⟨_, e1, by rw [e2, e3], ?_, ?_⟩
  · unfold rD
    rw [e3]
    exact e4.1
  · unfold rG
    rw [e3]
    exact e4.2
theorem inV_self {x : V} {xs : List V} (hx : eqV x x = true) (h : x ∈ xs) : inV x xs = true := List.any_eq_true.mpr ⟨x, h, hx⟩
theorem flat_signs (ls : Wd) : ((ls.map fun c => V.str ⟨#[c]⟩)).all flatV = true := by
  rw [List.all_eq_true]
  intro x hx
  obtain ⟨c, _, rfl⟩ := List.mem_map.mp hx
  rfl
theorem eqV_str (x : Str) : eqV (.str x) (.str x) = true := by simp [eqV]
def sp_Machine_step (K : PySem.W.Frag) : Sp := fun vs H Q _ => ∃ (a : Addr) (r : Raw) (s c : Nat), vs = [.ref a, .int s, .str (S [c])] ∧ MacV K H a r ∧ RawOk r ∧ s < r.tb.length ∧ c ∈ r.ls ∧
  ∀ q H', Same H H' → H' q = some (.tup [.int (rD r s c), .int (rG r s c)]) → Q (.ref q) H'
theorem sc_Machine_step : FnScope ["self", "state", "letter"] ["self", "state", "letter"] (defScope s_m_Machine_step) := ⟨rfl, rfl, rfl, by decide +kernel, rfl, by decide +kernel, by decide +kernel⟩
theorem ok_Machine_step (T : Tp K mg)  : MOk P w K mg base "Machine" "step" 1 ["self", "state", "letter"] (sp_Machine_step K) := by
  refine mok_of (st := s_m_Machine_step) T.fd_m_Machine_step T.cl_Machine T.me_Machine_step sc_Machine_step (fun _ _ _ _ _ _ us hl => match us, hl with | [_, _, _], _ => rfl) (fun vs H Q E h => ?_) (fun cdv A outer s H vs Q E hr h => ?_)
  · obtain ⟨a, r, s, c, rfl, _⟩ := h
    rfl
  · obtain ⟨a, r, s1, c, rfl, ⟨dx, l, ha, vs, hl, pw⟩, ok, hs, hc, k⟩ := h
    have hu := hu_of hr
    refine ⟨_, (pss_cons (ps_if (pt_not (pt_chain op_le op_lt pe_int (pv 1) (pe_callB (len_seqK K) (by rfl) T.b_len PySem.boot_len (pa_cons (pe_fld (pv 0) rfl) pa_nil)))) (pss_one ps_never) pss_nil)
      (pss_cons (ps_if (pt_cmpR (notIn_seqK K) (pv 2) (pe_callTy (call_list_str rfl) (by rfl) T.b_list (by decide +kernel) (pa_cons (pe_fld (pv 0) rfl) pa_nil)) (by rfl)) (pss_one ps_never) pss_nil)
      (pss_one (ps_ret (pe_ix (ix_tupK K) (pe_ix (ix_listK K) (pe_fld (pv 0) rfl) (pv 1) (fun _ _ => rfl)) (pe_m1 PySem.F.slot_str_index PySem.F.type_str_index mt_sindex (pe_fld (pv 0) rfl) (pv 2)) (fun _ _ => rfl)))))), ?_⟩
    have lw := paired_len pw
    obtain ⟨row, h1, h2, _, _⟩ := ok.at hs hc
    obtain ⟨v, hv, p, ws, rfl, hp, pws⟩ := paired_get' pw h1
    obtain ⟨v2, hv2, q, rfl, hq⟩ := paired_get' pws h2
    obtain ⟨⟨rest, hocc⟩, hsix⟩ := six_occ hc
    refine ⟨_, rfl, _, _, rfl, rfl, _, rfl, ?_⟩
    refine ite2 (fun _ => ?_) (fun hc => absurd (decide_eq_true (by omega)) hc)
    refine ⟨_, rfl, a, _, dx, _, _, rfl, ha, T.cl_Machine, T.no_Machine_table, rfl, l, vs, rfl, .inl (SqL.of hl), _, _, rfl, rfl, _, rfl, ?_⟩
    have c2 : decide ((s1 : Int) < ((vs.length : Nat) : Int)) = true := decide_eq_true (by omega)
    rw [c2]
    refine iteF ?_
    refine ⟨_, rfl, _, rfl, a, _, dx, _, _, rfl, ha, T.cl_Machine, T.no_Machine_alphabet, rfl, _, rfl, ?_, fun D hD => ?_⟩
    · show r.ls.toArray.size ≤ 1000000
      rw [List.size_toArray]
      have := ok.al.le
      omega
    refine ⟨D, _, rfl, .inl (SqL.of upd_same), rfl, flat_signs r.ls, _, rfl, ?_⟩
    have e3 : (if true = true then !inV (V.str (S [c])) (r.ls.map fun c => V.str ⟨#[c]⟩) else inV (V.str (S [c])) (r.ls.map fun c => V.str ⟨#[c]⟩)) = false := by
      rw [if_pos rfl, inV_self (eqV_str _) (List.mem_map.mpr ⟨c, hc, rfl⟩)]
      rfl
    refine Eq.mpr (congrArg (fun b => if b = true then _ else _) e3) ?_
    have sD := same_new (o := .lst (r.ls.map fun c => V.str ⟨#[c]⟩)) hD
    have ha2 := sD _ _ ha
    refine iteF ?_
    refine ⟨_, rfl, a, _, dx, _, _, rfl, ha2, T.cl_Machine, T.no_Machine_table, rfl, _, rfl, ?_⟩
    refine ⟨l, vs, s1, _, rfl, rfl, SqL.of (sD _ _ hl), atI_nat hv, ?_⟩
    refine ⟨_, rfl, a, _, dx, _, _, rfl, ha2, T.cl_Machine, T.no_Machine_alphabet, rfl, ⟨_, rfl⟩, _, rfl, _, _, _, rest, rfl, rfl, hocc, ?_⟩
    refine ⟨p, ws, _, _, rfl, rfl, SqT.of (sD _ _ hp), atI_nat hv2, ?_⟩
    exact k q _ sD (sD _ _ hq)
end
end K42
set_option Elab.async false
set_option linter.all false
set_option maxRecDepth 100000
set_option maxHeartbeats 4000000
namespace K42
open PySem PySem.Spec PyProof.Rows L2

open SX
theorem lc_trueG {J : It} {n : Nat} {G : Hp → Prop} {Y : Nat → Hp → V → Hp → Prop} (w : Walk J n G Y) {g : TG} {te : TE} {vs : List Nat} {σ : L2.St} {H0 H : Hp} {D : Addr} {Qd : Hp → Prop} (s0 : Same H0 H) (hD : H D = none) (hG : ∀ H', Same H H' → G H') (hn : n ≤ 1000) (hY : ∀ i H x H', Y i H x H' → H' = H)
    (hs : ∀ i x H1 (R : VK), i < n → Same H H1 → Y i H1 x H1 → (∀ H3, Same H1 H3 → R (.bl true) H3) → g x (wipe σ vs) H1 fun σ2 H2 => wipe σ2 vs = wipe σ vs ∧ te σ2 H2 R)
    (k : ∀ (H' : Hp) (bs : List Bool), Same H0 H' → H' D = some (.lst (bs.map V.bl)) → bs.all id = true → Qd H') :
    ∃ W : Nat → Nat → Hp → Prop, (∃ m, W 0 m (upd H D (.lst []))) ∧ ∀ i m H, W i m H →
      (J.stop i H ∧ Qd H) ∨ (J.go i H ∧ ∃ Nx : Hp → Prop, (∀ H', Nx H' → ∃ m', m' < m ∧ W (i + 1) m' H') ∧ ∀ x H', J.yld i H x H' → g x (wipe σ vs) H' fun σ2 H2 => wipe σ2 vs = wipe σ vs ∧ tYes σ2 H2 fun b H3 =>
        if b = true then te σ2 H3 fun y H4 => ∃ acc, H4 D = some (.lst acc) ∧ acc.length < sizeLine ∧ Nx (upd H4 D (.lst (acc ++ [y]))) else Nx H3) := by
  refine lc_it w (fun i H' => Same H H' ∧ H' D = some (.lst ((List.replicate i true).map V.bl))) ⟨same_new hD, upd_same⟩ (fun i H' _ p => hG H' p.1) ?_ ?_
  · rintro i x H1 H2 hi ⟨s1, h1⟩ y
    have e := hY i H1 x H2 y
    subst e
    refine hs i x H2 _ hi s1 y fun H3 s3 => ⟨_, s3 _ _ h1, ?_, same_mut (s1.trans s3) hD, ?_⟩
    · rw [List.length_map, List.length_replicate, sizeLine_eq]
      omega
    · rw [upd_same, List.replicate_succ', List.map_append]
      rfl
  · rintro H1 ⟨s1, h1⟩
    exact k H1 (List.replicate n true) (s0.trans s1) h1 (by simp)
structure Tr where
  src : Wd
  tgt : Wd
  tb : List (List (Nat × Wd))
  st : Nat
structure TrOk (t : Tr) : Prop where
  a1 : Alpha t.src
  a2 : Alpha t.tgt
  n1 : 1 ≤ t.tb.length
  n4 : t.tb.length ≤ 4
  row : ∀ x ∈ t.tb, x.length = t.src.length
  ent : ∀ x ∈ t.tb, ∀ e ∈ x, e.1 < t.tb.length ∧ (e.2 = [] ∨ ∃ c ∈ t.tgt, e.2 = [c])
  st : t.st < t.tb.length
def AnV (H : Hp) (v : V) (e : Nat × Wd) : Prop := ∃ a, v = .ref a ∧ H a = some (.tup [.int e.1, .str (S e.2)])
theorem AnV.mono {H H' : Hp} {v : V} {e : Nat × Wd} (t : TSame H H') (h : AnV H v e) : AnV H' v e := let ⟨a, e, q⟩ := h; ⟨a, e, t a _ q⟩
def sp_is_answer : Sp := fun vs H Q _ => ∃ (p : Addr) (ws : List V) (row : List (Nat × Wd)) (tgt : Wd) (n : Nat), vs = [.ref p, .int row.length, .str (S tgt), .int n] ∧ H p = some (.tup ws) ∧ Paired (AnV H) ws row ∧ row.length ≤ 3 ∧ tgt.length ≤ 3 ∧
  (∀ e ∈ row, e.1 < n ∧ (e.2 = [] ∨ ∃ c ∈ tgt, e.2 = [c])) ∧ ∀ H', Same H H' → Q (.bl true) H'
section
variable {P : Program} {w : World} {K : PySem.W.Frag} {mg : Str → Option Value} {base : Heap}
theorem sc_is_answer : FnScope ["state", "width", "letters", "count", "target", "output", "pair"] ["state", "width", "letters", "count"] (defScope s_g_is_answer) := ⟨rfl, rfl, rfl, by decide +kernel, rfl, by decide +kernel, by decide +kernel⟩
theorem ok_is_answer (T : Tp K mg)  : GOk P w K mg base "is_answer" 1 ["state", "width", "letters", "count"] sp_is_answer := by
  refine gok_of (st := s_g_is_answer) T.fd_g_is_answer T.g_is_answer sc_is_answer (fun _ _ _ _ _ _ us hl => match us, hl with | [_, _, _, _], _ => rfl) (fun vs H Q E h => ?_) (fun cdv A outer s H vs Q E hr h => ?_)
  · obtain ⟨p, ws, row, tgt, n, rfl, _⟩ := h
    rfl
  · obtain ⟨p, ws, row, tgt, n, rfl, hp, pw, r3, t3, re, k⟩ := h
    have hu := hu_of hr
    refine ⟨_, (pss_cons (ps_if (PW.pt (pw_or (pt_cmpR op_ne (pe_callB (len_seqK K) (by rfl) T.b_len PySem.boot_len (pa_cons (pv 0) pa_nil)) (pv 1) (nomark _)) (pw_or1 (pt_not (pt_val (pe_callB (cr_all rfl) (by rfl) T.b_all (by decide +kernel) (pa_cons (pe_lc (own := [("pair", 6)]) (by rfl) sc_is_answer.nd (pi_tup (pv 0)) (blkOk_by (own := [("pair", 6)]) (N := ["state", "width", "letters", "count", "target", "output", "pair"]) (sc := defScope s_g_is_answer) (by decide +kernel)) (fun _ _ _ _ _ => (pg_name (i := 6) sc_is_answer.nd rfl (by first | exact Or.inl rfl | exact Or.inr rfl))) (fun _ _ _ _ _ => pts_nil) (fun _ _ _ _ _ => (pe_cmpR op_eq (pe_callB (len_seqK K) (by rfl) T.b_len PySem.boot_len (pa_cons (pv 6) pa_nil)) pe_int (nomark _)))) pa_nil))))))) (pss_one (ps_ret pe_bl)) pss_nil)
      (pss_one (ps_ret (pe_callB (cr_all rfl) (by rfl) T.b_all (by decide +kernel) (pa_cons (pe_lc (own := [("target", 4), ("output", 5)]) (by rfl) sc_is_answer.nd (pi_tup (pv 0)) (blkOk_by (own := [("target", 4), ("output", 5)]) (N := ["state", "width", "letters", "count", "target", "output", "pair"]) (sc := defScope s_g_is_answer) (by decide +kernel)) (fun _ _ _ _ _ => (pg_tupK K (n := 2) (by rfl) (pgs_cons (pg_name (i := 4) sc_is_answer.nd rfl (by first | exact Or.inl rfl | exact Or.inr rfl)) (pgs_cons (pg_name (i := 5) sc_is_answer.nd rfl (by first | exact Or.inl rfl | exact Or.inr rfl)) pgs_nil)))) (fun _ _ _ _ _ => pts_nil) (fun _ _ _ _ _ => (pe_and (pe_chain op_le op_lt pe_int (pv 4) (pv 3)) (pe_one (pe_cmpR (in_seqK K) (pv 5) (pe_op op_cat (pe_lst (pa_cons pe_str pa_nil)) (pe_callTy (call_list_str rfl) (by rfl) T.b_list (by decide +kernel) (pa_cons (pv 2) pa_nil))) (by rfl)))))) pa_nil))))), ?_⟩
    have lw := paired_len pw
    refine ⟨_, rfl, p, ws, rfl, .inr (SqT.of hp), _, rfl, rfl, _, rfl, ?_⟩
    have e0 : (!decide (V.int ((ws.length : Nat) : Int) = V.int ((row.length : Nat) : Int))) = false := by rw [lw]; simp
    rw [e0]
    refine iteF ?_
    refine ⟨_, rfl, p, rfl, ⟨ws, SqT.of hp⟩, fun D hD => ?_⟩
    refine lc_true (walk_tup (xs := ws)) (Same.refl _) hD (fun _ s => SqT.of (s _ _ hp)) (by omega) (fun _ _ _ _ y => y.1) (fun i x H1 R hi s1 y hR => ?_) (fun H1 bs s1 hD1 eb => ?_)
    · obtain ⟨_, hx⟩ := y
      obtain ⟨e, he, a, rfl, ha⟩ := paired_get pw hx
      exact ⟨rfl, _, rfl, a, _, rfl, .inr (SqT.of (s1 _ _ ha)), rfl, hR⟩
    refine ⟨D, bs, rfl, SqL.of hD1, ?_⟩
    rw [eb]
    refine ⟨_, rfl, ?_⟩
    refine iteF ?_
    refine ⟨_, rfl, p, rfl, ⟨ws, SqT.of (s1 _ _ hp)⟩, fun D2 hD2 => ?_⟩
    refine lc_trueG (walk_tup (xs := ws)) s1 hD2 (fun _ s => SqT.of (s _ _ (s1 _ _ hp))) (by omega) (fun _ _ _ _ y => y.1) (fun i x H2 R hi s2 y hR => ?_) (fun H2 bs s2 hD2 eb2 => ?_)
    · obtain ⟨_, hx⟩ := y
      obtain ⟨e, he, a, rfl, ha⟩ := paired_get pw hx
      have hr := re e (List.mem_of_getElem? he)
      refine ⟨a, _, rfl, SqT.of (s2 _ _ (s1 _ _ ha)), rfl, _, _, rfl, _, _, rfl, rfl, rfl, ?_⟩
      have c1 : decide ((0 : Int) ≤ (e.1 : Int)) = true := decide_eq_true (by omega)
      have c2 : decide ((e.1 : Int) < (n : Int)) = true := decide_eq_true (by omega)
      refine ⟨_, rfl, _, _, rfl, rfl, _, rfl, ?_⟩
      rw [c1]
      refine iteT ⟨_, rfl, _, _, rfl, rfl, _, rfl, ?_⟩
      rw [c2]
      refine iteT ⟨_, rfl, (by show 1 ≤ sizeLine; decide), fun l hl => ?_⟩
      refine ⟨_, rfl, _, rfl, (by show tgt.toArray.size ≤ 1000000; rw [List.size_toArray]; omega), fun l2 hl2 => ?_⟩
      have sl2 := same_new (o := .lst (tgt.map fun c => V.str ⟨#[c]⟩)) hl2
      refine ⟨l, l2, _, _, rfl, rfl, sl2 _ _ upd_same, upd_same, ?_, fun l3 hl3 => ?_⟩
      · show 1 + (tgt.map _).length ≤ sizeLine
        rw [List.length_map, sizeLine_eq]
        omega
      refine ⟨l3, _, rfl, .inl (SqL.of upd_same), rfl, ?_, ?_⟩
      · rw [List.all_append, Bool.and_eq_true]
        exact ⟨rfl, flat_signs tgt⟩
      have ein : inV (V.str (S e.2)) ([V.str ""] ++ (tgt.map fun c => V.str ⟨#[c]⟩)) = true := by
        refine inV_self (eqV_str _) ?_
        rcases hr.2 with q | ⟨c, hc, q⟩
        · rw [q]
          exact List.mem_append_left _ (by rw [lit_nil]; exact List.mem_cons_self)
        · rw [q]
          exact List.mem_append_right _ (List.mem_map.mpr ⟨c, hc, rfl⟩)
      show R (V.bl (inV (V.str (S e.2)) ([V.str ""] ++ (tgt.map fun c => V.str ⟨#[c]⟩)))) _
      rw [ein]
      exact hR _ ((same_new hl).trans (sl2.trans (same_new hl3)))
    refine ⟨D2, bs, rfl, SqL.of hD2, ?_⟩
    rw [eb2]
    exact k H2 s2
def TrV (K : PySem.W.Frag) (H : Hp) (a : Addr) (t : Tr) : Prop := ∃ dx l, H a = some (.ins (He.ga K "Translator") dx [("inputs", .str (S t.src)), ("outputs", .str (S t.tgt)), ("table", .ref l), ("first", .int t.st)]) ∧ TabP AnV H l t.tb
theorem TrV.mono {K : PySem.W.Frag} {H H' : Hp} {a : Addr} {t : Tr} (s : Same H H') (h : TrV K H a t) : TrV K H' a t := by
  obtain ⟨dx, l, h1, h2⟩ := h
  exact ⟨dx, l, s _ _ h1, h2.mono (fun t q => q.mono t) s⟩
def sp_Translator_init (K : PySem.W.Frag) : Sp := fun vs H Q _ => ∃ (a dx l : Addr) (t : Tr), vs = [.ref a, .str (S t.src), .str (S t.tgt), .ref l, .int t.st] ∧ H a = some (.ins (He.ga K "Translator") dx []) ∧ TabP AnV H l t.tb ∧ TrOk t ∧ ∀ H', SameX a H H' → TrV K H' a t → Q .non H'
theorem sc_Translator_init : FnScope ["self", "source", "target", "states", "start", "number", "state"] ["self", "source", "target", "states", "start"] (defScope s_m_Translator_init) := ⟨rfl, rfl, rfl, by decide +kernel, rfl, by decide +kernel, by decide +kernel⟩
theorem ok_Translator_init (T : Tp K mg) (G_need_alphabet : GOk P w K mg base "need_alphabet" 2 ["letters"] sp_need_alphabet) (G_is_answer : GOk P w K mg base "is_answer" 1 ["state", "width", "letters", "count"] sp_is_answer) : COk P w K mg base "Translator" 3 3 ["start"] ["self", "source", "target", "states", "start"] (sp_Translator_init K) := by
  refine cok_of (st := s_m_Translator_init) T.fd_m_Translator_init T.g_Translator T.mk_Translator sc_Translator_init (fun _ _ _ _ _ _ us ws h1 h2 => match us, ws, h1, h2 with | [_, _, _, _], [_], _, _ => rfl) (fun vs H Q E h => ?_) (fun cdv A outer s H vs Q E hr h => ?_)
  · obtain ⟨a, dx, l, r, rfl, _⟩ := h
    rfl
  · obtain ⟨a, dx, l, r, rfl, ha, ⟨vs, hl, pw⟩, ok, k⟩ := h
    have hu := hu_of hr
    refine ⟨_, (pss_cons (ps_expr (pe_g G_need_alphabet (hr.mono (by decide)) (pa_cons (pv 1) pa_nil)))
      (pss_cons (ps_expr (pe_g G_need_alphabet (hr.mono (by decide)) (pa_cons (pv 2) pa_nil)))
      (pss_cons (ps_if (pt_cmpR op_eq (pe_callB (len_seqK K) (by rfl) T.b_len PySem.boot_len (pa_cons (pv 3) pa_nil)) pe_int (nomark _)) (pss_one ps_never) pss_nil)
      (pss_cons (ps_for PassesOwn.never rfl (pi_enum (by rfl) T.b_enumerate (pa_cons (pv 3) pa_nil)) (pg_tupK K (n := 2) (by rfl) (pgs_cons (pg_name (i := 5) sc_Translator_init.nd rfl (by first | exact Or.inl rfl | exact Or.inr rfl)) (pgs_cons (pg_name (i := 6) sc_Translator_init.nd rfl (by first | exact Or.inl rfl | exact Or.inr rfl)) pgs_nil))) (pss_one (ps_if (pt_not (pt_val (pe_g G_is_answer (hr.mono (by decide)) (pa_cons (pv 6) (pa_cons (pe_callB call_len_str (by rfl) T.b_len PySem.boot_len (pa_cons (pv 1) pa_nil)) (pa_cons (pv 2) (pa_cons (pe_callB (len_seqK K) (by rfl) T.b_len PySem.boot_len (pa_cons (pv 3) pa_nil)) pa_nil))))))) (pss_one ps_never) pss_nil)))
      (pss_cons (ps_if (pt_not (pt_chain op_le op_lt pe_int (pv 4) (pe_callB (len_seqK K) (by rfl) T.b_len PySem.boot_len (pa_cons (pv 3) pa_nil)))) (pss_one ps_never) pss_nil)
      (pss_cons (ps_asg (pe_tup (pa_cons (pv 1) (pa_cons (pv 2) pa_nil))) (pg_tupK K (n := 2) (by rfl) (pgs_cons (pg_attr (pv 0)) (pgs_cons (pg_attr (pv 0)) pgs_nil))))
      (pss_cons (ps_fld (pv 0) (pe_lc (own := [("state", 6)]) (by rfl) sc_Translator_init.nd (pi_list (pv 3)) (blkOk_by (own := [("state", 6)]) (N := ["self", "source", "target", "states", "start", "number", "state"]) (sc := defScope s_m_Translator_init) (by decide +kernel)) (fun _ _ _ _ _ => (pg_name (i := 6) sc_Translator_init.nd rfl (by first | exact Or.inl rfl | exact Or.inr rfl))) (fun _ _ _ _ _ => pts_nil) (fun _ _ _ _ _ => (pe_callTy (tuple_ofK K) (by rfl) T.b_tuple (by decide +kernel) (pa_cons (pv 6) pa_nil)))) rfl)
      (pss_one (ps_fld (pv 0) (pv 4) rfl))))))))), ?_⟩
    have lw := paired_len pw
    have n1 := ok.n1
    have n4 := ok.n4
    have lz : (S r.src).length ≤ sizeLine := lit_len (by have := ok.a1.le; omega)
    have nal : l ≠ a := ne_of hl ha (fun e => nomatch e)
    refine ⟨_, rfl, _, rfl, ok.a1, fun H1 s1 => ?_⟩
    refine ⟨_, rfl, _, rfl, ok.a2, fun H1' s1' => ?_⟩
    replace s1 := s1.trans s1'
    have hl1 := s1 _ _ hl
    refine ⟨_, rfl, l, vs, rfl, .inl (SqL.of hl1), rfl, _, rfl, ?_⟩
    refine ite2 (fun hc => by have := V.int.inj (of_decide_eq_true hc); omega) (fun _ => ?_)
    refine ⟨_, rfl, l, vs, rfl, SqL.of hl1, ?_⟩
    refine for_it (walk_enum (xs := vs)) (fun i σ H' => ∃ r4 r5, σ = [some (V.ref a), some (V.str (S r.src)), some (V.str (S r.tgt)), some (V.ref l), some (V.int r.st), r4, r5] ∧ Same H H') ⟨_, _, rfl, s1⟩ (fun i σ H' _ ⟨_, _, _, s⟩ => SqL.of (s _ _ hl)) ?_ ?_
    · rintro i x σ H2 H3 hi ⟨r4, r5, rfl, s2⟩ ⟨tt, n1, tv, rfl, htt, rfl, h1, h2⟩
      have en1 : V.int ((i : Nat) : Int) = n1 := Option.some.inj h1
      subst en1
      obtain ⟨row, hr, p, ws, rfl, hp, pws⟩ := paired_get pw h2
      have st := same_new (o := .tup [V.int ((i : Nat) : Int), .ref p]) htt
      have s3 := s2.trans st
      have rm := List.mem_of_getElem? hr
      have rl := ok.row row rm
      refine ⟨tt, _, rfl, SqT.of upd_same, rfl, _, _, rfl, _, _, rfl, rfl, ?_⟩
      refine ⟨_, rfl, _, rfl, _, rfl, lz, _, rfl, _, rfl, l, vs, rfl, .inl (SqL.of (s3 _ _ hl)), ?_⟩
      refine ⟨p, ws, row, r.tgt, r.tb.length, ?_, s3 _ _ hp, paired_imp pws fun _ _ q => q.mono (.of s3), by have := ok.a1.le; omega, ok.a2.le, ok.ent row rm, fun H4 s4 => ⟨_, rfl, ?_⟩⟩
      · rw [S_len, rl, lw]
        rfl
      · exact iteF ⟨_, _, rfl, s3.trans s4⟩
    rintro σ H2 ⟨r4, r5, rfl, s2⟩
    have st := ok.st
    refine ⟨_, rfl, _, _, rfl, rfl, _, rfl, ?_⟩
    refine ite2 (fun hc => ?_) (fun hc => absurd (decide_eq_true (by omega)) hc)
    refine ⟨_, rfl, l, vs, rfl, .inl (SqL.of (s2 _ _ hl)), _, _, rfl, rfl, _, rfl, ?_⟩
    have c2 : decide ((r.st : Int) < ((vs.length : Nat) : Int)) = true := decide_eq_true (by omega)
    rw [c2]
    refine iteF ?_
    have ha2 := s2 _ _ ha
    refine ⟨_, rfl, _, rfl, (by show 2 ≤ sizeLine; decide), fun q hq => ?_⟩
    have sq := same_new (o := .tup [V.str (S r.src), V.str (S r.tgt)]) hq
    refine ⟨q, _, rfl, SqT.of upd_same, rfl, _, _, rfl, ?_⟩
    have ha3 := sq _ _ ha2
    have s23 := s2.trans sq
    generalize upd H2 q (.tup [V.str (S r.src), V.str (S r.tgt)]) = H3 at sq ha3 s23 ⊢
    refine ⟨_, rfl, a, _, dx, [], rfl, ha3, T.cl_Translator, T.no_Translator_inputs, (by decide), _, _, rfl, ?_⟩
    refine ⟨_, rfl, a, _, dx, _, rfl, upd_same, T.cl_Translator, T.no_Translator_outputs, (by show 1 < 1000; decide), rfl, ?_⟩
    obtain ⟨H4, eH4⟩ : ∃ H4, H4 = upd (upd H3 a (.ins (He.ga K "Translator") dx (putF "inputs" (V.str (S r.src)) []))) a (.ins (He.ga K "Translator") dx (putF "outputs" (V.str (S r.tgt)) (putF "inputs" (V.str (S r.src)) []))) := ⟨_, rfl⟩
    rw [← eH4]
    have x3 : SameX a H H4 := by
      rw [eH4]
      exact SameX.put (SameX.put (SameX.then (SameX.refl a H) s23))
    have a3 : H4 a = some (.ins (He.ga K "Translator") dx [("inputs", .str (S r.src)), ("outputs", .str (S r.tgt))]) := by
      rw [eH4]
      exact upd_same
    clear eH4
    have tp : TSame H H4 := x3.ts ha (fun _ e => nomatch e)
    dsimp only [tSeq, sFld]
    refine lc_tuples (F := AnV) (fun t q => q.mono t) (l := l) (tb := r.tb) (fun R hR => ⟨_, rfl, hR⟩) ⟨vs, x3 _ _ nal hl, paired_imp pw fun v row q => TupOf.monoT (F := AnV) (fun t q => q.mono t) tp q⟩ (by omega) (fun _ => rfl) (fun _ => rfl) (fun D H5 s4 nD tD => ?_)
    have a4 := s4 _ _ a3
    refine ⟨_, rfl, a, _, dx, _, rfl, a4, T.cl_Translator, T.no_Translator_table, (by show 2 < 1000; decide), ?_⟩
    have nDa : D ≠ a := fun e => by
      rw [e, a3] at nD
      cases nD
    obtain ⟨H6, eH6⟩ : ∃ H6, H6 = upd H5 a (.ins (He.ga K "Translator") dx (putF "table" (V.ref D) [("inputs", .str (S r.src)), ("outputs", .str (S r.tgt))])) := ⟨_, rfl⟩
    have x5 : SameX a H H6 := by
      rw [eH6]
      exact SameX.put (x3.then s4)
    have a5 : H6 a = some (.ins (He.ga K "Translator") dx [("inputs", .str (S r.src)), ("outputs", .str (S r.tgt)), ("table", .ref D)]) := by
      rw [eH6]
      exact upd_same
    have d5 : TabP AnV H6 D r.tb := by
      obtain ⟨ws, h1, h2⟩ := tD
      rw [eH6]
      exact ⟨ws, by rw [upd_ne nDa]; exact h1, paired_imp h2 fun v row q => TupOf.monoT (F := AnV) (fun t q => q.mono t) ((TSame.refl _).mut a4 fun _ e => nomatch e) q⟩
    rw [← eH6]
    clear eH6
    refine ⟨_, rfl, _, rfl, a, _, dx, _, rfl, a5, T.cl_Translator, T.no_Translator_first, (by show 3 < 1000; decide), ?_⟩
    refine k _ (SameX.put x5) ⟨dx, D, upd_same, ?_⟩
    obtain ⟨ws, h1, h2⟩ := d5
    exact ⟨ws, by rw [upd_ne nDa]; exact h1, paired_imp h2 fun v row q => TupOf.monoT (F := AnV) (fun t q => q.mono t) ((TSame.refl _).mut a5 fun _ e => nomatch e) q⟩
def sp_Translator_source (K : PySem.W.Frag) : Sp := fun vs H Q _ => ∃ (a : Addr) (r : Tr), vs = [.ref a] ∧ TrV K H a r ∧ Q (.str (S r.src)) H
theorem sc_Translator_source : FnScope ["self"] ["self"] (defScope s_m_Translator_source) := ⟨rfl, rfl, rfl, by decide +kernel, rfl, by decide +kernel, by decide +kernel⟩
theorem ok_Translator_source (T : Tp K mg)  : MOk P w K mg base "Translator" "source" 1 ["self"] (sp_Translator_source K) := by
  refine mok_of (st := s_m_Translator_source) T.fd_m_Translator_source T.cl_Translator T.me_Translator_source sc_Translator_source (fun _ _ _ _ _ _ us hl => match us, hl with | [_], _ => rfl) (fun vs H Q E h => ?_) (fun cdv A outer s H vs Q E hr h => ?_)
  · obtain ⟨a, r, rfl, _⟩ := h
    rfl
  · obtain ⟨a, r, rfl, ⟨dx, l, ha, _⟩, k⟩ := h
    have hu := hu_of hr
    refine ⟨_, (pss_one (ps_ret (pe_fld (pv 0) rfl))), ?_⟩
    exact ⟨_, rfl, a, _, dx, _, _, rfl, ha, T.cl_Translator, T.no_Translator_inputs, rfl, k⟩
def sp_Translator_target (K : PySem.W.Frag) : Sp := fun vs H Q _ => ∃ (a : Addr) (r : Tr), vs = [.ref a] ∧ TrV K H a r ∧ Q (.str (S r.tgt)) H
theorem sc_Translator_target : FnScope ["self"] ["self"] (defScope s_m_Translator_target) := ⟨rfl, rfl, rfl, by decide +kernel, rfl, by decide +kernel, by decide +kernel⟩
theorem ok_Translator_target (T : Tp K mg)  : MOk P w K mg base "Translator" "target" 1 ["self"] (sp_Translator_target K) := by
  refine mok_of (st := s_m_Translator_target) T.fd_m_Translator_target T.cl_Translator T.me_Translator_target sc_Translator_target (fun _ _ _ _ _ _ us hl => match us, hl with | [_], _ => rfl) (fun vs H Q E h => ?_) (fun cdv A outer s H vs Q E hr h => ?_)
  · obtain ⟨a, r, rfl, _⟩ := h
    rfl
  · obtain ⟨a, r, rfl, ⟨dx, l, ha, _⟩, k⟩ := h
    have hu := hu_of hr
    refine ⟨_, (pss_one (ps_ret (pe_fld (pv 0) rfl))), ?_⟩
    exact ⟨_, rfl, a, _, dx, _, _, rfl, ha, T.cl_Translator, T.no_Translator_outputs, rfl, k⟩
def sp_Translator_start (K : PySem.W.Frag) : Sp := fun vs H Q _ => ∃ (a : Addr) (r : Tr), vs = [.ref a] ∧ TrV K H a r ∧ Q (.int r.st) H
theorem sc_Translator_start : FnScope ["self"] ["self"] (defScope s_m_Translator_start) := ⟨rfl, rfl, rfl, by decide +kernel, rfl, by decide +kernel, by decide +kernel⟩
theorem ok_Translator_start (T : Tp K mg)  : MOk P w K mg base "Translator" "start" 1 ["self"] (sp_Translator_start K) := by
  refine mok_of (st := s_m_Translator_start) T.fd_m_Translator_start T.cl_Translator T.me_Translator_start sc_Translator_start (fun _ _ _ _ _ _ us hl => match us, hl with | [_], _ => rfl) (fun vs H Q E h => ?_) (fun cdv A outer s H vs Q E hr h => ?_)
  · obtain ⟨a, r, rfl, _⟩ := h
    rfl
  · obtain ⟨a, r, rfl, ⟨dx, l, ha, _⟩, k⟩ := h
    have hu := hu_of hr
    refine ⟨_, (pss_one (ps_ret (pe_fld (pv 0) rfl))), ?_⟩
    exact ⟨_, rfl, a, _, dx, _, _, rfl, ha, T.cl_Translator, T.no_Translator_first, rfl, k⟩
def sp_Translator_states (K : PySem.W.Frag) : Sp := fun vs H Q _ => ∃ (a : Addr) (r : Tr), vs = [.ref a] ∧ TrV K H a r ∧ ∀ l H', Same H H' → TabP AnV H' l r.tb → Q (.ref l) H'
theorem sc_Translator_states : FnScope ["self"] ["self"] (defScope s_m_Translator_states) := ⟨rfl, rfl, rfl, by decide +kernel, rfl, by decide +kernel, by decide +kernel⟩
theorem ok_Translator_states (T : Tp K mg)  : MOk P w K mg base "Translator" "states" 1 ["self"] (sp_Translator_states K) := by
  refine mok_of (st := s_m_Translator_states) T.fd_m_Translator_states T.cl_Translator T.me_Translator_states sc_Translator_states (fun _ _ _ _ _ _ us hl => match us, hl with | [_], _ => rfl) (fun vs H Q E h => ?_) (fun cdv A outer s H vs Q E hr h => ?_)
  · obtain ⟨a, r, rfl, _⟩ := h
    rfl
  · obtain ⟨a, r, rfl, ⟨dx, l, ha, vs, hl, pw⟩, k⟩ := h
    have hu := hu_of hr
    refine ⟨_, (pss_one (ps_ret (pe_callTy (list_ofK K) (by rfl) T.b_list (by decide +kernel) (pa_cons (pe_fld (pv 0) rfl) pa_nil)))), ?_⟩
    refine ⟨_, rfl, a, _, dx, _, _, rfl, ha, T.cl_Translator, T.no_Translator_table, rfl, l, vs, rfl, .inl (SqL.of hl), fun D hD => ?_⟩
    have sD := same_new (o := .lst vs) hD
    exact k D _ sD ⟨vs, upd_same, paired_imp pw fun v row q => TupOf.monoT (F := AnV) (fun t q => q.mono t) (.of sD) q⟩
def tst (r : Tr) (s c : Nat) : Nat × Wd := (((r.tb[s]?).getD [])[six r.src c]?).getD (0, [])
def tD (r : Tr) (s c : Nat) : Nat := (tst r s c).1
def tO (r : Tr) (s c : Nat) : Wd := (tst r s c).2
theorem TrOk.at {r : Tr} (ok : TrOk r) {s c : Nat} (hs : s < r.tb.length) (hc : c ∈ r.src) : ∃ row, r.tb[s]? = some row ∧ row[six r.src c]? = some (tst r s c) ∧ tD r s c < r.tb.length ∧ (tO r s c = [] ∨ ∃ c' ∈ r.tgt, tO r s c = [c']) := by
  have e1 : r.tb[s]? = some (r.tb[s]'hs) := List.getElem?_eq_getElem hs
  have rm := List.mem_of_getElem? e1
  have lt : six r.src c < (r.tb[s]'hs).length := by rw [ok.row _ rm]; exact six_lt hc
  have e2 : (r.tb[s]'hs)[six r.src c]? = some ((r.tb[s]'hs)[six r.src c]'lt) := List.getElem?_eq_getElem lt
  have e3 : tst r s c = (r.tb[s]'hs)[six r.src c]'lt := by
    unfold tst
    rw [e1, Option.getD_some, e2, Option.getD_some]
  have e4 := ok.ent _ rm _ (List.mem_of_getElem? e2)
  refine ⟨_, e1, by rw [e2, e3], ?_, ?_⟩
  · unfold tD
    rw [e3]
    exact e4.1
  · unfold tO
    rw [e3]
    exact e4.2
def sp_Translator_step (K : PySem.W.Frag) : Sp := fun vs H Q _ => ∃ (a : Addr) (r : Tr) (s c : Nat), vs = [.ref a, .int s, .str (S [c])] ∧ TrV K H a r ∧ TrOk r ∧ s < r.tb.length ∧ c ∈ r.src ∧
  ∀ q H', Same H H' → H' q = some (.tup [.int (tD r s c), .str (S (tO r s c))]) → Q (.ref q) H'
theorem sc_Translator_step : FnScope ["self", "state", "letter"] ["self", "state", "letter"] (defScope s_m_Translator_step) := ⟨rfl, rfl, rfl, by decide +kernel, rfl, by decide +kernel, by decide +kernel⟩
theorem ok_Translator_step (T : Tp K mg)  : MOk P w K mg base "Translator" "step" 1 ["self", "state", "letter"] (sp_Translator_step K) := by
  refine mok_of (st := s_m_Translator_step) T.fd_m_Translator_step T.cl_Translator T.me_Translator_step sc_Translator_step (fun _ _ _ _ _ _ us hl => match us, hl with | [_, _, _], _ => rfl) (fun vs H Q E h => ?_) (fun cdv A outer s H vs Q E hr h => ?_)
  · obtain ⟨a, r, s, c, rfl, _⟩ := h
    rfl
  · obtain ⟨a, r, s1, c, rfl, ⟨dx, l, ha, vs, hl, pw⟩, ok, hs, hc, k⟩ := h
    have hu := hu_of hr
    refine ⟨_, (pss_cons (ps_if (pt_not (pt_chain op_le op_lt pe_int (pv 1) (pe_callB (len_seqK K) (by rfl) T.b_len PySem.boot_len (pa_cons (pe_fld (pv 0) rfl) pa_nil)))) (pss_one ps_never) pss_nil)
      (pss_cons (ps_if (pt_cmpR (notIn_seqK K) (pv 2) (pe_callTy (call_list_str rfl) (by rfl) T.b_list (by decide +kernel) (pa_cons (pe_fld (pv 0) rfl) pa_nil)) (by rfl)) (pss_one ps_never) pss_nil)
      (pss_one (ps_ret (pe_ix (ix_tupK K) (pe_ix (ix_listK K) (pe_fld (pv 0) rfl) (pv 1) (fun _ _ => rfl)) (pe_m1 PySem.F.slot_str_index PySem.F.type_str_index mt_sindex (pe_fld (pv 0) rfl) (pv 2)) (fun _ _ => rfl)))))), ?_⟩
    have lw := paired_len pw
    obtain ⟨row, h1, h2, _, _⟩ := ok.at hs hc
    obtain ⟨v, hv, p, ws, rfl, hp, pws⟩ := paired_get' pw h1
    obtain ⟨v2, hv2, q, rfl, hq⟩ := paired_get' pws h2
    obtain ⟨⟨rest, hocc⟩, hsix⟩ := six_occ hc
    refine ⟨_, rfl, _, _, rfl, rfl, _, rfl, ?_⟩
    refine ite2 (fun _ => ?_) (fun hc => absurd (decide_eq_true (by omega)) hc)
    refine ⟨_, rfl, a, _, dx, _, _, rfl, ha, T.cl_Translator, T.no_Translator_table, rfl, l, vs, rfl, .inl (SqL.of hl), _, _, rfl, rfl, _, rfl, ?_⟩
    have c2 : decide ((s1 : Int) < ((vs.length : Nat) : Int)) = true := decide_eq_true (by omega)
    rw [c2]
    refine iteF ?_
    refine ⟨_, rfl, _, rfl, a, _, dx, _, _, rfl, ha, T.cl_Translator, T.no_Translator_inputs, rfl, _, rfl, ?_, fun D hD => ?_⟩
    · show r.src.toArray.size ≤ 1000000
      rw [List.size_toArray]
      have := ok.a1.le
      omega
    refine ⟨D, _, rfl, .inl (SqL.of upd_same), rfl, flat_signs r.src, _, rfl, ?_⟩
    have e3 : (if true = true then !inV (V.str (S [c])) (r.src.map fun c => V.str ⟨#[c]⟩) else inV (V.str (S [c])) (r.src.map fun c => V.str ⟨#[c]⟩)) = false := by
      rw [if_pos rfl, inV_self (eqV_str _) (List.mem_map.mpr ⟨c, hc, rfl⟩)]
      rfl
    refine Eq.mpr (congrArg (fun b => if b = true then _ else _) e3) ?_
    have sD := same_new (o := .lst (r.src.map fun c => V.str ⟨#[c]⟩)) hD
    have ha2 := sD _ _ ha
    refine iteF ?_
    refine ⟨_, rfl, a, _, dx, _, _, rfl, ha2, T.cl_Translator, T.no_Translator_table, rfl, _, rfl, ?_⟩
    refine ⟨l, vs, s1, _, rfl, rfl, SqL.of (sD _ _ hl), atI_nat hv, ?_⟩
    refine ⟨_, rfl, a, _, dx, _, _, rfl, ha2, T.cl_Translator, T.no_Translator_inputs, rfl, ⟨_, rfl⟩, _, rfl, _, _, _, rest, rfl, rfl, hocc, ?_⟩
    refine ⟨p, ws, _, _, rfl, rfl, SqT.of (sD _ _ hp), atI_nat hv2, ?_⟩
    exact k q _ sD (sD _ _ hq)
end
end K42
set_option Elab.async false
set_option linter.all false
set_option maxRecDepth 100000
set_option maxHeartbeats 4000000
namespace K42
open PySem PySem.Spec PyProof.Rows L2

open SX
structure Op where
  src : Wd
  tgt : Wd
  tb : List (Nat × List Nat)
  st : Nat
structure OpOk (t : Op) : Prop where
  a1 : Alpha t.src
  a2 : Alpha t.tgt
  n1 : 1 ≤ t.tb.length
  n4 : t.tb.length ≤ 4
  ent : ∀ e ∈ t.tb, e.1 ∈ t.src ∧ e.2.length = t.tgt.length + 1 ∧ ∀ x ∈ e.2, x < t.tb.length
  st : t.st < t.tb.length
def intV (l : List Nat) : List V := l.map fun (n : Nat) => V.int (n : Int)
def CgV (H : Hp) (v : V) (e : Nat × List Nat) : Prop := ∃ p q, v = .ref p ∧ H p = some (.tup [.str (S [e.1]), .ref q]) ∧ H q = some (.tup (intV e.2))
theorem CgV.mono {H H' : Hp} {v : V} {e : Nat × List Nat} (t : TSame H H') (h : CgV H v e) : CgV H' v e := let ⟨p, q, e, h1, h2⟩ := h; ⟨p, q, e, t _ _ h1, t _ _ h2⟩
def OpTab (H : Hp) (l : Addr) (tb : List (Nat × List Nat)) : Prop := ∃ vs, H l = some (.lst vs) ∧ Paired (CgV H) vs tb
theorem OpTab.mono {H H' : Hp} {l : Addr} {tb : List (Nat × List Nat)} (s : Same H H') (h : OpTab H l tb) : OpTab H' l tb := let ⟨vs, h1, h2⟩ := h; ⟨vs, s _ _ h1, paired_imp h2 fun _ _ q => q.mono (.of s)⟩
theorem intV_get {l : List Nat} {i : Nat} {v : V} (h : (intV l)[i]? = some v) : ∃ n ∈ l, v = .int (n : Int) := by
  unfold intV at h
  rw [List.getElem?_map] at h
  obtain ⟨n, h1, h2⟩ := Option.map_eq_some_iff.mp h
  exact ⟨n, List.mem_of_getElem? h1, h2.symm⟩
theorem intV_len (l : List Nat) : (intV l).length = l.length := List.length_map _
def sp_is_challenge : Sp := fun vs H Q _ => ∃ (v : V) (e : Nat × List Nat) (src : Wd) (n : Nat), vs = [v, .str (S src), .int e.2.length, .int n] ∧ CgV H v e ∧ e.1 ∈ src ∧ src.length ≤ 3 ∧ e.2.length ≤ 4 ∧ (∀ x ∈ e.2, x < n) ∧ ∀ H', Same H H' → Q (.bl true) H'
section
variable {P : Program} {w : World} {K : PySem.W.Frag} {mg : Str → Option Value} {base : Heap}
theorem sc_is_challenge : FnScope ["state", "source", "width", "count", "target"] ["state", "source", "width", "count"] (defScope s_g_is_challenge) := ⟨rfl, rfl, rfl, by decide +kernel, rfl, by decide +kernel, by decide +kernel⟩
theorem ok_is_challenge (T : Tp K mg)  : GOk P w K mg base "is_challenge" 1 ["state", "source", "width", "count"] sp_is_challenge := by
  refine gok_of (st := s_g_is_challenge) T.fd_g_is_challenge T.g_is_challenge sc_is_challenge (fun _ _ _ _ _ _ us hl => match us, hl with | [_, _, _, _], _ => rfl) (fun vs H Q E h => ?_) (fun cdv A outer s H vs Q E hr h => ?_)
  · obtain ⟨v, e, src, n, rfl, _⟩ := h
    rfl
  · obtain ⟨v, e, src, n, rfl, ⟨p, q, rfl, hp, hq⟩, es, s3, e4, en, k⟩ := h
    have hu := hu_of hr
    refine ⟨_, (pss_cons (ps_if (PW.pt (pw_or (pt_cmpR op_ne (pe_callB (len_seqK K) (by rfl) T.b_len PySem.boot_len (pa_cons (pv 0) pa_nil)) pe_int (nomark _)) (pw_or (pt_cmpR (notIn_seqK K) (pe_ix (ix_tupK K) (pv 0) pe_int (fun _ _ => rfl)) (pe_callTy (call_list_str rfl) (by rfl) T.b_list (by decide +kernel) (pa_cons (pv 1) pa_nil)) (by rfl)) (pw_or1 (pt_cmpR op_ne (pe_callB (len_seqK K) (by rfl) T.b_len PySem.boot_len (pa_cons (pe_ix (ix_tupK K) (pv 0) pe_int (fun _ _ => rfl)) pa_nil)) (pv 2) (nomark _)))))) (pss_one (ps_ret pe_bl)) pss_nil)
      (pss_one (ps_ret (pe_callB (cr_all rfl) (by rfl) T.b_all (by decide +kernel) (pa_cons (pe_lc (own := [("target", 4)]) (by rfl) sc_is_challenge.nd (pi_tup (pe_ix (ix_tupK K) (pv 0) pe_int (fun _ _ => rfl))) (blkOk_by (own := [("target", 4)]) (N := ["state", "source", "width", "count", "target"]) (sc := defScope s_g_is_challenge) (by decide +kernel)) (fun _ _ _ _ _ => (pg_name (i := 4) sc_is_challenge.nd rfl (by first | exact Or.inl rfl | exact Or.inr rfl))) (fun _ _ _ _ _ => pts_nil) (fun _ _ _ _ _ => (pe_chain op_le op_lt pe_int (pv 4) (pv 3)))) pa_nil))))), ?_⟩
    refine ⟨_, rfl, p, _, rfl, .inr (SqT.of hp), rfl, _, rfl, ?_⟩
    refine iteF ?_
    refine ⟨_, rfl, p, _, 0, _, rfl, rfl, SqT.of hp, atI_nat (j := 0) rfl, _, rfl, _, rfl, (by show src.toArray.size ≤ 1000000; rw [List.size_toArray]; omega), fun l hl => ?_⟩
    have s1 := same_new (o := .lst (src.map fun c => V.str ⟨#[c]⟩)) hl
    refine ⟨l, _, rfl, .inl (SqL.of upd_same), rfl, flat_signs src, _, rfl, ?_⟩
    have e3 : (if true = true then !inV (V.str (S [e.1])) (src.map fun c => V.str ⟨#[c]⟩) else inV (V.str (S [e.1])) (src.map fun c => V.str ⟨#[c]⟩)) = false := by
      rw [if_pos rfl, inV_self (eqV_str _) (List.mem_map.mpr ⟨e.1, es, rfl⟩)]
      rfl
    refine Eq.mpr (congrArg (fun b => if b = true then _ else _) e3) ?_
    generalize upd H l (.lst (src.map fun c => V.str ⟨#[c]⟩)) = H1 at s1 ⊢
    have hp1 := s1 _ _ hp
    have hq1 := s1 _ _ hq
    refine iteF ?_
    refine ⟨_, rfl, p, _, 1, _, rfl, rfl, SqT.of hp1, atI_nat (j := 1) rfl, q, _, rfl, .inr (SqT.of hq1), _, rfl, rfl, _, rfl, ?_⟩
    have e5 : (!decide (V.int (((intV e.2).length : Nat) : Int) = V.int ((e.2.length : Nat) : Int))) = false := by rw [intV_len]; simp
    rw [e5]
    refine iteF ?_
    refine ⟨_, rfl, p, _, 1, _, rfl, rfl, SqT.of hp1, atI_nat (j := 1) rfl, q, rfl, ⟨_, SqT.of hq1⟩, fun D hD => ?_⟩
    refine lc_true (walk_tup (xs := intV e.2)) s1 hD (fun _ s => SqT.of (s _ _ hq1)) (by rw [intV_len]; omega) (fun _ _ _ _ y => y.1) (fun i x H2 R hi s2 y hR => ?_) (fun H2 bs s2 hD2 eb2 => ?_)
    · obtain ⟨_, hx⟩ := y
      obtain ⟨m, hm, rfl⟩ := intV_get hx
      have hn := en m hm
      have c1 : decide ((0 : Int) ≤ (m : Int)) = true := decide_eq_true (by omega)
      have c2 : decide ((m : Int) < (n : Int)) = true := decide_eq_true (by omega)
      refine ⟨rfl, _, rfl, _, _, rfl, rfl, _, rfl, ?_⟩
      rw [c1]
      refine iteT ⟨_, rfl, _, _, rfl, rfl, ?_⟩
      show R (V.bl (decide ((m : Int) < (n : Int)))) H2
      rw [c2]
      exact hR
    refine ⟨D, bs, rfl, SqL.of hD2, ?_⟩
    rw [eb2]
    exact k H2 s2
def OpV (K : PySem.W.Frag) (H : Hp) (a : Addr) (t : Op) : Prop := ∃ dx l, H a = some (.ins (He.ga K "Opponent") dx [("written_letters", .str (S t.src)), ("answer_letters", .str (S t.tgt)), ("table", .ref l), ("first", .int t.st)]) ∧ OpTab H l t.tb
theorem OpV.mono {K : PySem.W.Frag} {H H' : Hp} {a : Addr} {t : Op} (s : Same H H') (h : OpV K H a t) : OpV K H' a t := by
  obtain ⟨dx, l, h1, h2⟩ := h
  exact ⟨dx, l, s _ _ h1, h2.mono s⟩
def sp_Opponent_init (K : PySem.W.Frag) : Sp := fun vs H Q _ => ∃ (a dx l : Addr) (t : Op), vs = [.ref a, .str (S t.src), .str (S t.tgt), .ref l, .int t.st] ∧ H a = some (.ins (He.ga K "Opponent") dx []) ∧ OpTab H l t.tb ∧ OpOk t ∧ ∀ H', SameX a H H' → OpV K H' a t → Q .non H'
theorem sc_Opponent_init : FnScope ["self", "source", "target", "states", "start", "number", "state"] ["self", "source", "target", "states", "start"] (defScope s_m_Opponent_init) := ⟨rfl, rfl, rfl, by decide +kernel, rfl, by decide +kernel, by decide +kernel⟩
theorem ok_Opponent_init (T : Tp K mg) (G_need_alphabet : GOk P w K mg base "need_alphabet" 2 ["letters"] sp_need_alphabet) (G_is_challenge : GOk P w K mg base "is_challenge" 1 ["state", "source", "width", "count"] sp_is_challenge) : COk P w K mg base "Opponent" 3 3 ["start"] ["self", "source", "target", "states", "start"] (sp_Opponent_init K) := by
  refine cok_of (st := s_m_Opponent_init) T.fd_m_Opponent_init T.g_Opponent T.mk_Opponent sc_Opponent_init (fun _ _ _ _ _ _ us ws h1 h2 => match us, ws, h1, h2 with | [_, _, _, _], [_], _, _ => rfl) (fun vs H Q E h => ?_) (fun cdv A outer s H vs Q E hr h => ?_)
  · obtain ⟨a, dx, l, r, rfl, _⟩ := h
    rfl
  · obtain ⟨a, dx, l, r, rfl, ha, ⟨vs, hl, pw⟩, ok, k⟩ := h
    have hu := hu_of hr
    refine ⟨_, (pss_cons (ps_expr (pe_g G_need_alphabet (hr.mono (by decide)) (pa_cons (pv 1) pa_nil)))
      (pss_cons (ps_expr (pe_g G_need_alphabet (hr.mono (by decide)) (pa_cons (pv 2) pa_nil)))
      (pss_cons (ps_if (pt_cmpR op_eq (pe_callB (len_seqK K) (by rfl) T.b_len PySem.boot_len (pa_cons (pv 3) pa_nil)) pe_int (nomark _)) (pss_one ps_never) pss_nil)
      (pss_cons (ps_for PassesOwn.never rfl (pi_enum (by rfl) T.b_enumerate (pa_cons (pv 3) pa_nil)) (pg_tupK K (n := 2) (by rfl) (pgs_cons (pg_name (i := 5) sc_Opponent_init.nd rfl (by first | exact Or.inl rfl | exact Or.inr rfl)) (pgs_cons (pg_name (i := 6) sc_Opponent_init.nd rfl (by first | exact Or.inl rfl | exact Or.inr rfl)) pgs_nil))) (pss_one (ps_if (pt_not (pt_val (pe_g G_is_challenge (hr.mono (by decide)) (pa_cons (pv 6) (pa_cons (pv 1) (pa_cons (pe_op op_add (pe_callB call_len_str (by rfl) T.b_len PySem.boot_len (pa_cons (pv 2) pa_nil)) pe_int) (pa_cons (pe_callB (len_seqK K) (by rfl) T.b_len PySem.boot_len (pa_cons (pv 3) pa_nil)) pa_nil))))))) (pss_one ps_never) pss_nil)))
      (pss_cons (ps_if (pt_not (pt_chain op_le op_lt pe_int (pv 4) (pe_callB (len_seqK K) (by rfl) T.b_len PySem.boot_len (pa_cons (pv 3) pa_nil)))) (pss_one ps_never) pss_nil)
      (pss_cons (ps_asg (pe_tup (pa_cons (pv 1) (pa_cons (pv 2) pa_nil))) (pg_tupK K (n := 2) (by rfl) (pgs_cons (pg_attr (pv 0)) (pgs_cons (pg_attr (pv 0)) pgs_nil))))
      (pss_cons (ps_fld (pv 0) (pe_lc (own := [("state", 6)]) (by rfl) sc_Opponent_init.nd (pi_list (pv 3)) (blkOk_by (own := [("state", 6)]) (N := ["self", "source", "target", "states", "start", "number", "state"]) (sc := defScope s_m_Opponent_init) (by decide +kernel)) (fun _ _ _ _ _ => (pg_name (i := 6) sc_Opponent_init.nd rfl (by first | exact Or.inl rfl | exact Or.inr rfl))) (fun _ _ _ _ _ => pts_nil) (fun _ _ _ _ _ => (pe_tup (pa_cons (pe_ix (ix_tupK K) (pv 6) pe_int (fun _ _ => rfl)) (pa_cons (pe_callTy (tuple_ofK K) (by rfl) T.b_tuple (by decide +kernel) (pa_cons (pe_ix (ix_tupK K) (pv 6) pe_int (fun _ _ => rfl)) pa_nil)) pa_nil))))) rfl)
      (pss_one (ps_fld (pv 0) (pv 4) rfl))))))))), ?_⟩
    have lw := paired_len pw
    have n1 := ok.n1
    have n4 := ok.n4
    have lz : (S r.tgt).length ≤ sizeLine := lit_len (by have := ok.a2.le; omega)
    have nal : l ≠ a := ne_of hl ha (fun e => nomatch e)
    refine ⟨_, rfl, _, rfl, ok.a1, fun H1 s1 => ?_⟩
    refine ⟨_, rfl, _, rfl, ok.a2, fun H1' s1' => ?_⟩
    replace s1 := s1.trans s1'
    have hl1 := s1 _ _ hl
    refine ⟨_, rfl, l, vs, rfl, .inl (SqL.of hl1), rfl, _, rfl, ?_⟩
    refine ite2 (fun hc => by have := V.int.inj (of_decide_eq_true hc); omega) (fun _ => ?_)
    refine ⟨_, rfl, l, vs, rfl, SqL.of hl1, ?_⟩
    refine for_it (walk_enum (xs := vs)) (fun i σ H' => ∃ r4 r5, σ = [some (V.ref a), some (V.str (S r.src)), some (V.str (S r.tgt)), some (V.ref l), some (V.int r.st), r4, r5] ∧ Same H H') ⟨_, _, rfl, s1⟩ (fun i σ H' _ ⟨_, _, _, s⟩ => SqL.of (s _ _ hl)) ?_ ?_
    · rintro i x σ H2 H3 hi ⟨r4, r5, rfl, s2⟩ ⟨tt, n1, tv, rfl, htt, rfl, h1, h2⟩
      have en1 : V.int ((i : Nat) : Int) = n1 := Option.some.inj h1
      subst en1
      obtain ⟨row, hr, pv⟩ := paired_get pw h2
      have st := same_new (o := .tup [V.int ((i : Nat) : Int), tv]) htt
      have s3 := s2.trans st
      have rm := ok.ent row (List.mem_of_getElem? hr)
      refine ⟨tt, _, rfl, SqT.of upd_same, rfl, _, _, rfl, _, _, rfl, rfl, ?_⟩
      refine ⟨_, rfl, _, rfl, _, rfl, _, rfl, lz, _, _, rfl, rfl, _, rfl, l, vs, rfl, .inl (SqL.of (s3 _ _ hl)), ?_⟩
      refine ⟨tv, row, r.src, r.tb.length, ?_, pv.mono (.of s3), rm.1, ok.a1.le, by have := ok.a2.le; omega, rm.2.2, fun H4 s4 => ⟨_, rfl, ?_⟩⟩
      · rw [S_len, rm.2.1, lw]
        rfl
      · exact iteF ⟨_, _, rfl, s3.trans s4⟩
    rintro σ H2 ⟨r4, r5, rfl, s2⟩
    have st := ok.st
    refine ⟨_, rfl, _, _, rfl, rfl, _, rfl, ?_⟩
    refine ite2 (fun hc => ?_) (fun hc => absurd (decide_eq_true (by omega)) hc)
    refine ⟨_, rfl, l, vs, rfl, .inl (SqL.of (s2 _ _ hl)), _, _, rfl, rfl, _, rfl, ?_⟩
    have c2 : decide ((r.st : Int) < ((vs.length : Nat) : Int)) = true := decide_eq_true (by omega)
    rw [c2]
    refine iteF ?_
    have ha2 := s2 _ _ ha
    refine ⟨_, rfl, _, rfl, (by show 2 ≤ sizeLine; decide), fun q hq => ?_⟩
    have sq := same_new (o := .tup [V.str (S r.src), V.str (S r.tgt)]) hq
    refine ⟨q, _, rfl, SqT.of upd_same, rfl, _, _, rfl, ?_⟩
    have ha3 := sq _ _ ha2
    have s23 := s2.trans sq
    generalize upd H2 q (.tup [V.str (S r.src), V.str (S r.tgt)]) = H3 at sq ha3 s23 ⊢
    refine ⟨_, rfl, a, _, dx, [], rfl, ha3, T.cl_Opponent, T.no_Opponent_written_letters, (by decide), _, _, rfl, ?_⟩
    refine ⟨_, rfl, a, _, dx, _, rfl, upd_same, T.cl_Opponent, T.no_Opponent_answer_letters, (by show 1 < 1000; decide), rfl, ?_⟩
    obtain ⟨H4, eH4⟩ : ∃ H4, H4 = upd (upd H3 a (.ins (He.ga K "Opponent") dx (putF "written_letters" (V.str (S r.src)) []))) a (.ins (He.ga K "Opponent") dx (putF "answer_letters" (V.str (S r.tgt)) (putF "written_letters" (V.str (S r.src)) []))) := ⟨_, rfl⟩
    rw [← eH4]
    have x3 : SameX a H H4 := by
      rw [eH4]
      exact SameX.put (SameX.put (SameX.then (SameX.refl a H) s23))
    have a3 : H4 a = some (.ins (He.ga K "Opponent") dx [("written_letters", .str (S r.src)), ("answer_letters", .str (S r.tgt))]) := by
      rw [eH4]
      exact upd_same
    clear eH4
    have tp : TSame H H4 := x3.ts ha (fun _ e => nomatch e)
    have hl4 := x3 _ _ nal hl
    have pw4 : Paired (CgV H4) vs r.tb := paired_imp pw fun _ _ q => q.mono tp
    refine ⟨_, rfl, l, rfl, ⟨vs, SqL.of hl4⟩, fun D hD => ?_⟩
    refine lc_it (walk_list (xs := vs)) (fun n H' => Same H4 H' ∧ ∃ ws, H' D = some (.lst ws) ∧ Paired (CgV H') ws (r.tb.take n)) ⟨same_new hD, [], upd_same, .nil⟩ (fun n H' _ p => SqL.of (p.1 _ _ hl4)) ?_ ?_
    · rintro n x H5 H6 hn ⟨s5, ws, hv, pws⟩ ⟨rfl, hxn⟩
      obtain ⟨row, hr, p, q, rfl, hp, hq⟩ := paired_get pw4 hxn
      have hp5 := s5 _ _ hp
      have hq5 := s5 _ _ hq
      refine ⟨rfl, ?_⟩
      unfold tYes
      refine iteT ⟨_, rfl, p, _, 0, _, rfl, rfl, SqT.of hp5, atI_nat (j := 0) rfl, _, rfl, p, _, 1, _, rfl, rfl, SqT.of hp5, atI_nat (j := 1) rfl, q, _, rfl, .inr ⟨SqT.of hq5, (by show 2 ≤ sizeLine; decide), fun z hz => ?_⟩⟩
      have sz := same_new (o := .tup [V.str (S [row.1]), V.ref q]) hz
      have lt := List.length_take_le' n r.tb
      have lp := paired_len pws
      refine ⟨ws, sz _ _ hv, by rw [sizeLine_eq]; omega, same_mut (s5.trans sz) hD, ws ++ [V.ref z], upd_same, ?_⟩
      have tz := (TSame.of sz).trans ((TSame.refl _).mut (o := .lst (ws ++ [V.ref z])) (sz _ _ hv) fun _ e => nomatch e)
      rw [List.take_add_one, hr]
      refine paired_app (paired_imp pws fun _ _ q => q.mono tz) (.cons ⟨z, q, rfl, ?_, tz _ _ hq5⟩ .nil)
      rw [upd_ne (ne_of_none hv hz).symm]
      exact upd_same
    rintro H5 ⟨s4, ws, hv, pws⟩
    rw [lw, List.take_length] at pws
    have a4 := s4 _ _ a3
    refine ⟨_, rfl, a, _, dx, _, rfl, a4, T.cl_Opponent, T.no_Opponent_table, (by show 2 < 1000; decide), ?_⟩
    have nDa : D ≠ a := fun e => by
      rw [e, a3] at hD
      cases hD
    obtain ⟨H6, eH6⟩ : ∃ H6, H6 = upd H5 a (.ins (He.ga K "Opponent") dx (putF "table" (V.ref D) [("written_letters", .str (S r.src)), ("answer_letters", .str (S r.tgt))])) := ⟨_, rfl⟩
    have x5 : SameX a H H6 := by
      rw [eH6]
      exact SameX.put (x3.then s4)
    have a5 : H6 a = some (.ins (He.ga K "Opponent") dx [("written_letters", .str (S r.src)), ("answer_letters", .str (S r.tgt)), ("table", .ref D)]) := by
      rw [eH6]
      exact upd_same
    have d5 : OpTab H6 D r.tb := by
      rw [eH6]
      exact ⟨ws, by rw [upd_ne nDa]; exact hv, paired_imp pws fun _ _ q => q.mono ((TSame.refl _).mut a4 fun _ e => nomatch e)⟩
    rw [← eH6]
    clear eH6
    refine ⟨_, rfl, _, rfl, a, _, dx, _, rfl, a5, T.cl_Opponent, T.no_Opponent_first, (by show 3 < 1000; decide), ?_⟩
    refine k _ (SameX.put x5) ⟨dx, D, upd_same, ?_⟩
    obtain ⟨us, h1, h2⟩ := d5
    exact ⟨us, by rw [upd_ne nDa]; exact h1, paired_imp h2 fun _ _ q => q.mono ((TSame.refl _).mut a5 fun _ e => nomatch e)⟩
def sp_Opponent_source (K : PySem.W.Frag) : Sp := fun vs H Q _ => ∃ (a : Addr) (r : Op), vs = [.ref a] ∧ OpV K H a r ∧ Q (.str (S r.src)) H
theorem sc_Opponent_source : FnScope ["self"] ["self"] (defScope s_m_Opponent_source) := ⟨rfl, rfl, rfl, by decide +kernel, rfl, by decide +kernel, by decide +kernel⟩
theorem ok_Opponent_source (T : Tp K mg)  : MOk P w K mg base "Opponent" "source" 1 ["self"] (sp_Opponent_source K) := by
  refine mok_of (st := s_m_Opponent_source) T.fd_m_Opponent_source T.cl_Opponent T.me_Opponent_source sc_Opponent_source (fun _ _ _ _ _ _ us hl => match us, hl with | [_], _ => rfl) (fun vs H Q E h => ?_) (fun cdv A outer s H vs Q E hr h => ?_)
  · obtain ⟨a, r, rfl, _⟩ := h
    rfl
  · obtain ⟨a, r, rfl, ⟨dx, l, ha, _⟩, k⟩ := h
    have hu := hu_of hr
    refine ⟨_, (pss_one (ps_ret (pe_fld (pv 0) rfl))), ?_⟩
    exact ⟨_, rfl, a, _, dx, _, _, rfl, ha, T.cl_Opponent, T.no_Opponent_written_letters, rfl, k⟩
def sp_Opponent_target (K : PySem.W.Frag) : Sp := fun vs H Q _ => ∃ (a : Addr) (r : Op), vs = [.ref a] ∧ OpV K H a r ∧ Q (.str (S r.tgt)) H
theorem sc_Opponent_target : FnScope ["self"] ["self"] (defScope s_m_Opponent_target) := ⟨rfl, rfl, rfl, by decide +kernel, rfl, by decide +kernel, by decide +kernel⟩
theorem ok_Opponent_target (T : Tp K mg)  : MOk P w K mg base "Opponent" "target" 1 ["self"] (sp_Opponent_target K) := by
  refine mok_of (st := s_m_Opponent_target) T.fd_m_Opponent_target T.cl_Opponent T.me_Opponent_target sc_Opponent_target (fun _ _ _ _ _ _ us hl => match us, hl with | [_], _ => rfl) (fun vs H Q E h => ?_) (fun cdv A outer s H vs Q E hr h => ?_)
  · obtain ⟨a, r, rfl, _⟩ := h
    rfl
  · obtain ⟨a, r, rfl, ⟨dx, l, ha, _⟩, k⟩ := h
    have hu := hu_of hr
    refine ⟨_, (pss_one (ps_ret (pe_fld (pv 0) rfl))), ?_⟩
    exact ⟨_, rfl, a, _, dx, _, _, rfl, ha, T.cl_Opponent, T.no_Opponent_answer_letters, rfl, k⟩
def sp_Opponent_start (K : PySem.W.Frag) : Sp := fun vs H Q _ => ∃ (a : Addr) (r : Op), vs = [.ref a] ∧ OpV K H a r ∧ Q (.int r.st) H
theorem sc_Opponent_start : FnScope ["self"] ["self"] (defScope s_m_Opponent_start) := ⟨rfl, rfl, rfl, by decide +kernel, rfl, by decide +kernel, by decide +kernel⟩
theorem ok_Opponent_start (T : Tp K mg)  : MOk P w K mg base "Opponent" "start" 1 ["self"] (sp_Opponent_start K) := by
  refine mok_of (st := s_m_Opponent_start) T.fd_m_Opponent_start T.cl_Opponent T.me_Opponent_start sc_Opponent_start (fun _ _ _ _ _ _ us hl => match us, hl with | [_], _ => rfl) (fun vs H Q E h => ?_) (fun cdv A outer s H vs Q E hr h => ?_)
  · obtain ⟨a, r, rfl, _⟩ := h
    rfl
  · obtain ⟨a, r, rfl, ⟨dx, l, ha, _⟩, k⟩ := h
    have hu := hu_of hr
    refine ⟨_, (pss_one (ps_ret (pe_fld (pv 0) rfl))), ?_⟩
    exact ⟨_, rfl, a, _, dx, _, _, rfl, ha, T.cl_Opponent, T.no_Opponent_first, rfl, k⟩
def sp_Opponent_states (K : PySem.W.Frag) : Sp := fun vs H Q _ => ∃ (a : Addr) (r : Op), vs = [.ref a] ∧ OpV K H a r ∧ ∀ l H', Same H H' → OpTab H' l r.tb → Q (.ref l) H'
theorem sc_Opponent_states : FnScope ["self"] ["self"] (defScope s_m_Opponent_states) := ⟨rfl, rfl, rfl, by decide +kernel, rfl, by decide +kernel, by decide +kernel⟩
theorem ok_Opponent_states (T : Tp K mg)  : MOk P w K mg base "Opponent" "states" 1 ["self"] (sp_Opponent_states K) := by
  refine mok_of (st := s_m_Opponent_states) T.fd_m_Opponent_states T.cl_Opponent T.me_Opponent_states sc_Opponent_states (fun _ _ _ _ _ _ us hl => match us, hl with | [_], _ => rfl) (fun vs H Q E h => ?_) (fun cdv A outer s H vs Q E hr h => ?_)
  · obtain ⟨a, r, rfl, _⟩ := h
    rfl
  · obtain ⟨a, r, rfl, ⟨dx, l, ha, vs, hl, pw⟩, k⟩ := h
    have hu := hu_of hr
    refine ⟨_, (pss_one (ps_ret (pe_callTy (list_ofK K) (by rfl) T.b_list (by decide +kernel) (pa_cons (pe_fld (pv 0) rfl) pa_nil)))), ?_⟩
    refine ⟨_, rfl, a, _, dx, _, _, rfl, ha, T.cl_Opponent, T.no_Opponent_table, rfl, l, vs, rfl, .inl (SqL.of hl), fun D hD => ?_⟩
    have sD := same_new (o := .lst vs) hD
    exact k D _ sD ⟨vs, upd_same, paired_imp pw fun _ _ q => q.mono (.of sD)⟩
def ost (r : Op) (s : Nat) : Nat × List Nat := (r.tb[s]?).getD (0, [])
def oL (r : Op) (s : Nat) : Nat := (ost r s).1
def oD (r : Op) (s c : Nat) : Nat := ((ost r s).2[six (45 :: r.tgt) c]?).getD 0
theorem OpOk.at {r : Op} (ok : OpOk r) {s : Nat} (hs : s < r.tb.length) : r.tb[s]? = some (ost r s) ∧ oL r s ∈ r.src ∧ ∀ c ∈ 45 :: r.tgt, (ost r s).2[six (45 :: r.tgt) c]? = some (oD r s c) ∧ oD r s c < r.tb.length := by
  have e1 : r.tb[s]? = some (r.tb[s]'hs) := List.getElem?_eq_getElem hs
  have e2 : ost r s = r.tb[s]'hs := by
    unfold ost
    rw [e1, Option.getD_some]
  have rm := ok.ent _ (List.mem_of_getElem? e1)
  rw [← e2] at rm
  refine ⟨by rw [e1, e2], rm.1, fun c hc => ?_⟩
  have lt : six (45 :: r.tgt) c < (ost r s).2.length := by
    rw [rm.2.1]
    exact six_lt hc
  have e3 : (ost r s).2[six (45 :: r.tgt) c]? = some ((ost r s).2[six (45 :: r.tgt) c]'lt) := List.getElem?_eq_getElem lt
  have e4 : oD r s c = (ost r s).2[six (45 :: r.tgt) c]'lt := by
    unfold oD
    rw [e3, Option.getD_some]
  exact ⟨by rw [e3, e4], by rw [e4]; exact rm.2.2 _ (List.mem_of_getElem? e3)⟩
def sp_Opponent_letter (K : PySem.W.Frag) : Sp := fun vs H Q _ => ∃ (a : Addr) (r : Op) (s : Nat), vs = [.ref a, .int s] ∧ OpV K H a r ∧ OpOk r ∧ s < r.tb.length ∧ Q (.str (S [oL r s])) H
theorem sc_Opponent_letter : FnScope ["self", "state"] ["self", "state"] (defScope s_m_Opponent_letter) := ⟨rfl, rfl, rfl, by decide +kernel, rfl, by decide +kernel, by decide +kernel⟩
theorem ok_Opponent_letter (T : Tp K mg)  : MOk P w K mg base "Opponent" "letter" 1 ["self", "state"] (sp_Opponent_letter K) := by
  refine mok_of (st := s_m_Opponent_letter) T.fd_m_Opponent_letter T.cl_Opponent T.me_Opponent_letter sc_Opponent_letter (fun _ _ _ _ _ _ us hl => match us, hl with | [_, _], _ => rfl) (fun vs H Q E h => ?_) (fun cdv A outer s H vs Q E hr h => ?_)
  · obtain ⟨a, r, s, rfl, _⟩ := h
    rfl
  · obtain ⟨a, r, s1, rfl, ⟨dx, l, ha, vs, hl, pw⟩, ok, hs, k⟩ := h
    have hu := hu_of hr
    refine ⟨_, (pss_cons (ps_if (pt_not (pt_chain op_le op_lt pe_int (pv 1) (pe_callB (len_seqK K) (by rfl) T.b_len PySem.boot_len (pa_cons (pe_fld (pv 0) rfl) pa_nil)))) (pss_one ps_never) pss_nil)
      (pss_one (ps_ret (pe_ix (ix_tupK K) (pe_ix (ix_listK K) (pe_fld (pv 0) rfl) (pv 1) (fun _ _ => rfl)) pe_int (fun _ _ => rfl))))), ?_⟩
    have lw := paired_len pw
    obtain ⟨h1, _, _⟩ := ok.at hs
    obtain ⟨v, hv, p, q, rfl, hp, hq⟩ := paired_get' pw h1
    refine ⟨_, rfl, _, _, rfl, rfl, _, rfl, ?_⟩
    refine ite2 (fun _ => ?_) (fun hc => absurd (decide_eq_true (by omega)) hc)
    refine ⟨_, rfl, a, _, dx, _, _, rfl, ha, T.cl_Opponent, T.no_Opponent_table, rfl, l, vs, rfl, .inl (SqL.of hl), _, _, rfl, rfl, _, rfl, ?_⟩
    have c2 : decide ((s1 : Int) < ((vs.length : Nat) : Int)) = true := decide_eq_true (by omega)
    rw [c2]
    refine iteF ?_
    refine ⟨_, rfl, a, _, dx, _, _, rfl, ha, T.cl_Opponent, T.no_Opponent_table, rfl, _, rfl, ?_⟩
    exact ⟨l, vs, s1, _, rfl, rfl, SqL.of hl, atI_nat hv, p, _, 0, _, rfl, rfl, SqT.of hp, atI_nat (j := 0) rfl, k⟩
theorem lit_wait : (("-" : Str)) = S [45] := by rfl
def sp_Opponent_move (K : PySem.W.Frag) : Sp := fun vs H Q _ => ∃ (a : Addr) (r : Op) (s c : Nat), vs = [.ref a, .int s, .str (S [c])] ∧ OpV K H a r ∧ OpOk r ∧ s < r.tb.length ∧ c ∈ 45 :: r.tgt ∧ ∀ H', Same H H' → Q (.int (oD r s c)) H'
theorem sc_Opponent_move : FnScope ["self", "state", "answer"] ["self", "state", "answer"] (defScope s_m_Opponent_move) := ⟨rfl, rfl, rfl, by decide +kernel, rfl, by decide +kernel, by decide +kernel⟩
theorem ok_Opponent_move (T : Tp K mg)  : MOk P w K mg base "Opponent" "move" 1 ["self", "state", "answer"] (sp_Opponent_move K) := by
  refine mok_of (st := s_m_Opponent_move) T.fd_m_Opponent_move T.cl_Opponent T.me_Opponent_move sc_Opponent_move (fun _ _ _ _ _ _ us hl => match us, hl with | [_, _, _], _ => rfl) (fun vs H Q E h => ?_) (fun cdv A outer s H vs Q E hr h => ?_)
  · obtain ⟨a, r, s, c, rfl, _⟩ := h
    rfl
  · obtain ⟨a, r, s1, c, rfl, ⟨dx, l, ha, vs, hl, pw⟩, ok, hs, hc, k⟩ := h
    have hu := hu_of hr
    refine ⟨_, (pss_cons (ps_if (pt_not (pt_chain op_le op_lt pe_int (pv 1) (pe_callB (len_seqK K) (by rfl) T.b_len PySem.boot_len (pa_cons (pe_fld (pv 0) rfl) pa_nil)))) (pss_one ps_never) pss_nil)
      (pss_cons (ps_if (pt_cmpR (notIn_seqK K) (pv 2) (pe_op op_cat (pe_lst (pa_cons (pe_gs T.WAIT) pa_nil)) (pe_callTy (call_list_str rfl) (by rfl) T.b_list (by decide +kernel) (pa_cons (pe_fld (pv 0) rfl) pa_nil))) (by rfl)) (pss_one ps_never) pss_nil)
      (pss_one (ps_ret (pe_ix (ix_tupK K) (pe_ix (ix_tupK K) (pe_ix (ix_listK K) (pe_fld (pv 0) rfl) (pv 1) (fun _ _ => rfl)) pe_int (fun _ _ => rfl)) (pe_m1 PySem.F.slot_str_index PySem.F.type_str_index mt_sindex (pe_op op_add_str (pe_gs T.WAIT) (pe_fld (pv 0) rfl)) (pv 2)) (fun _ _ => rfl)))))), ?_⟩
    have lw := paired_len pw
    have t3 := ok.a2.le
    obtain ⟨h1, _, h2⟩ := ok.at hs
    obtain ⟨h3, _⟩ := h2 c hc
    obtain ⟨v, hv, p, q, rfl, hp, hq⟩ := paired_get' pw h1
    obtain ⟨⟨rest, hocc⟩, hsix⟩ := six_occ hc
    refine ⟨_, rfl, _, _, rfl, rfl, _, rfl, ?_⟩
    refine ite2 (fun _ => ?_) (fun hc => absurd (decide_eq_true (by omega)) hc)
    refine ⟨_, rfl, a, _, dx, _, _, rfl, ha, T.cl_Opponent, T.no_Opponent_table, rfl, l, vs, rfl, .inl (SqL.of hl), _, _, rfl, rfl, _, rfl, ?_⟩
    have c2 : decide ((s1 : Int) < ((vs.length : Nat) : Int)) = true := decide_eq_true (by omega)
    rw [c2]
    refine iteF ?_
    refine ⟨_, rfl, (by show 1 ≤ sizeLine; decide), fun l1 hl1 => ?_⟩
    have sl1 := same_new (o := .lst [V.str "-"]) hl1
    refine ⟨_, rfl, a, _, dx, _, _, rfl, sl1 _ _ ha, T.cl_Opponent, T.no_Opponent_answer_letters, rfl, _, rfl, (by show r.tgt.toArray.size ≤ 1000000; rw [List.size_toArray]; omega), fun l2 hl2 => ?_⟩
    have sl2 := same_new (o := .lst (r.tgt.map fun c => V.str ⟨#[c]⟩)) hl2
    refine ⟨l1, l2, _, _, rfl, rfl, sl2 _ _ upd_same, upd_same, ?_, fun l3 hl3 => ?_⟩
    · show 1 + (r.tgt.map _).length ≤ sizeLine
      rw [List.length_map, sizeLine_eq]
      omega
    have sl3 := same_new (o := .lst ([V.str "-"] ++ (r.tgt.map fun c => V.str ⟨#[c]⟩))) hl3
    refine ⟨l3, _, rfl, .inl (SqL.of upd_same), rfl, ?_, _, rfl, ?_⟩
    · rw [List.all_append, Bool.and_eq_true]
      exact ⟨rfl, flat_signs r.tgt⟩
    have ein : inV (V.str (S [c])) ([V.str "-"] ++ (r.tgt.map fun c => V.str ⟨#[c]⟩)) = true := by
      refine inV_self (eqV_str _) ?_
      rcases List.mem_cons.mp hc with q | q
      · rw [q, lit_wait]
        exact List.mem_append_left _ List.mem_cons_self
      · exact List.mem_append_right _ (List.mem_map.mpr ⟨c, q, rfl⟩)
    have e3 : (if true = true then !inV (V.str (S [c])) ([V.str "-"] ++ (r.tgt.map fun c => V.str ⟨#[c]⟩)) else inV (V.str (S [c])) ([V.str "-"] ++ (r.tgt.map fun c => V.str ⟨#[c]⟩))) = false := by
      rw [if_pos rfl, ein]
      rfl
    refine Eq.mpr (congrArg (fun b => if b = true then _ else _) e3) ?_
    have sA := sl1.trans (sl2.trans sl3)
    generalize upd (upd (upd H l1 (.lst [V.str "-"])) l2 (.lst (r.tgt.map fun c => V.str ⟨#[c]⟩))) l3 (.lst ([V.str "-"] ++ (r.tgt.map fun c => V.str ⟨#[c]⟩))) = H4 at sA ⊢
    refine iteF ?_
    have ha4 := sA _ _ ha
    refine ⟨_, rfl, a, _, dx, _, _, rfl, ha4, T.cl_Opponent, T.no_Opponent_table, rfl, _, rfl, ?_⟩
    refine ⟨l, vs, s1, _, rfl, rfl, SqL.of (sA _ _ hl), atI_nat hv, p, _, 1, _, rfl, rfl, SqT.of (sA _ _ hp), atI_nat (j := 1) rfl, ?_⟩
    refine ⟨_, rfl, a, _, dx, _, _, rfl, ha4, T.cl_Opponent, T.no_Opponent_answer_letters, rfl, _, _, rfl, rfl, ?_, ⟨_, rfl⟩, _, rfl, _, _, six (45 :: r.tgt) c, rest, rfl, rfl, ?_, ?_⟩
    · rw [lit_wait, S_len, S_len, sizeLine_eq]
      show 1 + r.tgt.length ≤ _
      omega
    · rw [lit_wait, S_cat]
      exact hocc
    have h4 : (intV (ost r s1).2)[six (45 :: r.tgt) c]? = some (V.int ((oD r s1 c : Nat) : Int)) := by
      unfold intV
      rw [List.getElem?_map, h3]
      rfl
    exact ⟨q, _, _, _, rfl, rfl, SqT.of (sA _ _ hq), atI_nat h4, k H4 sA⟩
end
end K42
set_option Elab.async false
set_option linter.all false
set_option maxRecDepth 100000
set_option maxHeartbeats 4000000
namespace K42
open PySem PySem.Spec PyProof.Rows L2

open SX
def EntL (ld : Addr) (H : Hp) (kv : Nd × V) (ne : Nd × List Edge) : Prop := kv.1 = ne.1 ∧ ∃ l vs, kv.2 = .ref l ∧ l ≠ ld ∧ H l = some (.lst vs) ∧ Paired (EdgeV H) vs ne.2
theorem EntL.toV {ld : Addr} {H : Hp} {kv : Nd × V} {ne : Nd × List Edge} (h : EntL ld H kv ne) : EntV H kv ne := let ⟨e, l, vs, h1, _, h2, h3⟩ := h; ⟨e, l, vs, h1, h2, h3⟩
def SameY (d ld : Addr) (H H' : Hp) : Prop := ∀ x o, x ≠ d → x ≠ ld → H x = some o → H' x = some o
theorem SameY.refl (d ld : Addr) (H : Hp) : SameY d ld H H := fun _ _ _ _ h => h
theorem SameY.then {d ld : Addr} {H H1 H2 : Hp} (a : SameY d ld H H1) (b : Same H1 H2) : SameY d ld H H2 := fun c o n n2 h => b c o (a c o n n2 h)
theorem SameY.putL {d ld : Addr} {H H1 : Hp} {o : HO} (a : SameY d ld H H1) : SameY d ld H (upd H1 ld o) := fun c u n n2 h => by rw [upd_ne n2]; exact a c u n n2 h
theorem SameY.putD {d ld : Addr} {H H1 : Hp} {o : HO} (a : SameY d ld H H1) : SameY d ld H (upd H1 d o) := fun c u n n2 h => by rw [upd_ne n]; exact a c u n n2 h
theorem SameY.mut {d ld q : Addr} {H H1 : Hp} {o : HO} (a : SameY d ld H H1) (h : H q = none) : SameY d ld H (upd H1 q o) := fun c u n n2 e => by
  have : c ≠ q := fun z => by rw [z, h] at e; cases e
  rw [upd_ne this]
  exact a c u n n2 e
theorem SameY.free {d ld q : Addr} {H H1 : Hp} (a : SameY d ld H H1) (n : q ≠ d) (n2 : q ≠ ld) (h : H1 q = none) : H q = none := by
  cases e : H q with
  | none => rfl
  | some o =>
    have := a q o n n2 e
    rw [h] at this
    cases this
theorem SameY.ts {d ld : Addr} {H H1 : Hp} {kvs : List (Nd × V)} {lv : List V} (a : SameY d ld H H1) (hd : H d = some (.dT kvs)) (hl : H ld = some (.lst lv)) : TSame H H1 :=
  fun c xs e => a c _ (ne_of e hd (fun z => nomatch z)) (ne_of e hl (fun z => nomatch z)) e
theorem SameY.same {d ld : Addr} {H H1 H2 : Hp} (s : Same H H1) (a : SameY d ld H1 H2) (nd : H d = none) (nl : H ld = none) : Same H H2 := fun c o e => by
  refine a c o ?_ ?_ (s c o e)
  · intro z
    rw [z, nd] at e
    cases e
  · intro z
    rw [z, nl] at e
    cases e
theorem EntL.mono {d ld : Addr} {H H' : Hp} {kvs : List (Nd × V)} {lv : List V} {kv : Nd × V} {ne : Nd × List Edge} (s : SameY d ld H H') (hd : H d = some (.dT kvs)) (hl : H ld = some (.lst lv)) (h : EntL ld H kv ne) : EntL ld H' kv ne := by
  obtain ⟨e, l, vs, h1, n, h2, h3⟩ := h
  exact ⟨e, l, vs, h1, n, s _ _ (ne_of h2 hd (fun z => nomatch z)) n h2, paired_imp h3 fun _ _ r => r.mono (s.ts hd hl)⟩
theorem entl_keys {ld : Addr} {H : Hp} {kvs : List (Nd × V)} {g : Gph} (h : Paired (EntL ld H) kvs g) : kvs.map (·.1) = gkeys g := ents_keys (paired_imp h fun _ _ r => r.toV)
theorem nd3_kV (a b c : Nat) : (nd3 a b c).map kV = [V.int a, V.int b, V.int c] := rfl
theorem lc_targets {K : PySem.W.Frag} {σ : L2.St} {H : Hp} {tl : TE} {i j : Nat} {Q : VK} {l : Addr} {ws : List V} {es : List Edge} (hl : ∀ R : VK, R (.ref l) H → tl σ H R) (hH : H l = some (.lst ws)) (pw : Paired (EdgeV H) ws es) (hlen : es.length ≤ 1000)
    (hw : ∀ x y, wipe (((wipe σ [i, j]).set i x).set j y) [i, j] = wipe σ [i, j]) (hy : ∀ x y, (((wipe σ [i, j]).set i x).set j y)[j]? = some y)
    (k : ∀ D H' vs, Same H H' → H D = none → H' D = some (.lst vs) → Paired (KeyV H') vs (es.map (·.2)) → Q (.ref D) H') :
    tLc (iList K tl) (gTup K 2 (gCons (gName i) (gCons (gName j) gNil))) tYes (tVar j) [i, j] σ H Q := by
  refine hl _ ⟨l, rfl, ⟨ws, SqL.of hH⟩, fun D hD => ?_⟩
  have hs0 := same_new (o := .lst []) hD
  refine lc_it (walk_list (xs := ws)) (fun n H' => Same H H' ∧ ∃ vs, H' D = some (.lst vs) ∧ Paired (KeyV H') vs ((es.take n).map (·.2))) ⟨hs0, [], upd_same, .nil⟩ (fun n H' _ p => SqL.of (p.1 _ _ hH)) ?_ ?_
  · rintro n x H1 H2 hn ⟨s1, vs, hv, pv⟩ ⟨rfl, hxn⟩
    obtain ⟨e, he, pe, ta, ka, rfl, hpe, hta, hka⟩ := paired_get pw hxn
    have e1 := s1 _ _ hpe
    have e3 := s1 _ _ hka
    refine ⟨pe, _, rfl, SqT.of e1, rfl, _, _, rfl, _, _, rfl, rfl, hw _ _, ?_⟩
    have tk : (es.take (n + 1)) = es.take n ++ [e] := by rw [List.take_add_one, he]; rfl
    have lv := paired_len pv
    rw [List.length_map] at lv
    have lt := List.length_take_le' n es
    unfold tYes
    refine iteT ⟨_, hy _ _, vs, hv, by rw [sizeLine_eq]; omega, same_mut s1 hD, _, upd_same, ?_⟩
    have t3 := (TSame.refl _).mut (o := .lst (vs ++ [V.ref ka])) hv fun _ e => nomatch e
    rw [tk, List.map_append]
    exact paired_app (paired_imp pv fun _ _ r => r.mono t3) (.cons ⟨ka, rfl, t3 _ _ e3⟩ .nil)
  · rintro H1 ⟨s1, vs, hv, pv⟩
    rw [List.take_of_length_le (by rw [← paired_len pw]; exact Nat.le_refl _)] at pv
    exact k D H1 vs s1 hD hv pv
section
variable {P : Program} {w : World} {K : PySem.W.Frag} {mg : Str → Option Value} {base : Heap}
theorem sc_need_letters : FnScope ["one", "other", "machine"] ["one", "other", "machine"] (defScope s_g_need_letters) := ⟨rfl, rfl, rfl, by decide +kernel, rfl, by decide +kernel, by decide +kernel⟩
def sp_need_letters (K : PySem.W.Frag) : Sp := fun vs H Q _ => ∃ (a b m : Addr) (r1 r2 : Raw), vs = [.ref a, .ref b, .ref m] ∧ MacV K H a r1 ∧ MacV K H b r2 ∧ PyData.strOk (S r1.ls) = true ∧ PyData.strOk (S r2.ls) = true ∧ ((∃ t, TrV K H m t ∧ t.src = r1.ls ∧ t.tgt = r2.ls) ∨ (∃ t, OpV K H m t ∧ t.src = r1.ls ∧ t.tgt = r2.ls)) ∧ ∀ H', Same H H' → Q .non H'
theorem strOk_S {l : Wd} (h : ∀ x ∈ l, x < 1114112) : PyData.strOk (S l) = true := by
  show l.toArray.all (· < 0x110000) = true
  rw [← Array.all_toList]
  exact List.all_eq_true.mpr fun x hx => decide_eq_true (h x hx)
theorem lower_small : ∀ c ∈ lowerL, c < 1114112 := by decide
theorem Alpha.ok {ls : Wd} (a : Alpha ls) : PyData.strOk (S ls) = true := strOk_S fun x hx => lower_small x (a.low x hx)
theorem shaped_two {x y : Str} (hx : PyData.strOk x = true) (hy : PyData.strOk y = true) : SeqAt.shaped (.tuple [.str x, .str y]) = true := by
  simp [SeqAt.shaped, PyData.canLay0, PyData.canLayAll0, PyData.depth, PyData.depthAll, hx, hy]
theorem ne_two {x y : Str} (hx : PyData.strOk x = true) (hy : PyData.strOk y = true) : (!PyData.eqv (.tuple [.str x, .str y]) (.tuple [.str x, .str y])) = false := by
  rw [SeqAt.eqv_refl _ (by simp [PyData.canLay0, PyData.canLayAll0, hx, hy])]
  rfl
theorem ok_need_letters (T : Tp K mg) (M_Machine_letters : MOk P w K mg base "Machine" "letters" 1 ["self"] (sp_Machine_letters K)) (M_Translator_source : MOk P w K mg base "Translator" "source" 1 ["self"] (sp_Translator_source K)) (M_Translator_target : MOk P w K mg base "Translator" "target" 1 ["self"] (sp_Translator_target K))
    (M_Opponent_source : MOk P w K mg base "Opponent" "source" 1 ["self"] (sp_Opponent_source K)) (M_Opponent_target : MOk P w K mg base "Opponent" "target" 1 ["self"] (sp_Opponent_target K)) : GOk P w K mg base "need_letters" 2 ["one", "other", "machine"] (sp_need_letters K) := by
  refine gok_of (st := s_g_need_letters) T.fd_g_need_letters T.g_need_letters sc_need_letters (fun _ _ _ _ _ _ us hl => match us, hl with | [_, _, _], _ => rfl) (fun vs H Q E h => ?_) (fun cdv A outer s H vs Q E hr h => ?_)
  · obtain ⟨a, b, m, r1, r2, rfl, _⟩ := h
    rfl
  · obtain ⟨a, b, m, r1, r2, rfl, mA, mB, oa, ob, hM, k⟩ := h
    have mA2 := mA
    have mB2 := mB
    obtain ⟨_, _, hA, _⟩ := mA2
    obtain ⟨_, _, hB, _⟩ := mB2
    have hu := hu_of hr
    rcases hM with ⟨t, mM, e1, e2⟩ | ⟨t, mM, e1, e2⟩
    · refine ⟨_, (pss_one (ps_if (pt_cmpR (op_neD hr.units) (pe_tup (pa_cons (pe_mz M_Machine_letters (hr.mono (by decide)) (pv 0)) (pa_cons (pe_mz M_Machine_letters (hr.mono (by decide)) (pv 1)) pa_nil))) (pe_tup (pa_cons (pe_mz M_Translator_source (hr.mono (by decide)) (pv 2)) (pa_cons (pe_mz M_Translator_target (hr.mono (by decide)) (pv 2)) pa_nil))) (nomark _)) (pss_one ps_never) pss_nil)), ?_⟩
      refine ⟨_, rfl, a, _, _, rfl, hA, rfl, a, r1, rfl, mA, _, rfl, b, _, _, rfl, hB, rfl, b, r2, rfl, mB, (by show 2 ≤ sizeLine; decide), fun p hp => ?_⟩
      have s1 := same_new (o := .tup [V.str (S r1.ls), V.str (S r2.ls)]) hp
      have mM1 := mM.mono s1
      have mM3 := mM1
      obtain ⟨_, _, hM1, _⟩ := mM3
      refine ⟨_, rfl, m, _, _, rfl, hM1, rfl, m, t, rfl, mM1, _, rfl, m, _, _, rfl, hM1, rfl, m, t, rfl, mM1, (by show 2 ≤ sizeLine; decide), fun q hq => ?_⟩
      have s2 := same_new (o := .tup [V.str (S t.src), V.str (S t.tgt)]) hq
      refine ⟨_, _, .tup (SqT.of (s2 _ _ upd_same)) (.cons (.str _) (.cons (.str _) .nil)), .tup (SqT.of upd_same) (.cons (.str _) (.cons (.str _) .nil)), shaped_two oa ob, shaped_two (by rw [e1]; exact oa) (by rw [e2]; exact ob), _, rfl, ?_⟩
      rw [e1, e2] at s2 ⊢
      rw [ne_two oa ob]
      exact iteF (k _ (s1.trans s2))
    · refine ⟨_, (pss_one (ps_if (pt_cmpR (op_neD hr.units) (pe_tup (pa_cons (pe_mz M_Machine_letters (hr.mono (by decide)) (pv 0)) (pa_cons (pe_mz M_Machine_letters (hr.mono (by decide)) (pv 1)) pa_nil))) (pe_tup (pa_cons (pe_mz M_Opponent_source (hr.mono (by decide)) (pv 2)) (pa_cons (pe_mz M_Opponent_target (hr.mono (by decide)) (pv 2)) pa_nil))) (nomark _)) (pss_one ps_never) pss_nil)), ?_⟩
      refine ⟨_, rfl, a, _, _, rfl, hA, rfl, a, r1, rfl, mA, _, rfl, b, _, _, rfl, hB, rfl, b, r2, rfl, mB, (by show 2 ≤ sizeLine; decide), fun p hp => ?_⟩
      have s1 := same_new (o := .tup [V.str (S r1.ls), V.str (S r2.ls)]) hp
      have mM1 := mM.mono s1
      have mM3 := mM1
      obtain ⟨_, _, hM1, _⟩ := mM3
      refine ⟨_, rfl, m, _, _, rfl, hM1, rfl, m, t, rfl, mM1, _, rfl, m, _, _, rfl, hM1, rfl, m, t, rfl, mM1, (by show 2 ≤ sizeLine; decide), fun q hq => ?_⟩
      have s2 := same_new (o := .tup [V.str (S t.src), V.str (S t.tgt)]) hq
      refine ⟨_, _, .tup (SqT.of (s2 _ _ upd_same)) (.cons (.str _) (.cons (.str _) .nil)), .tup (SqT.of upd_same) (.cons (.str _) (.cons (.str _) .nil)), shaped_two oa ob, shaped_two (by rw [e1]; exact oa) (by rw [e2]; exact ob), _, rfl, ?_⟩
      rw [e1, e2] at s2 ⊢
      rw [ne_two oa ob]
      exact iteF (k _ (s1.trans s2))
def pdT (r1 r2 : Raw) (t : Tr) : Pd := { D := tD t, f1 := fun _ c => [c], f2 := tO t, D1 := rD r1, g1 := rG r1, D2 := rD r2, g2 := rG r2, L := r1.ls, n1 := r1.tb.length, n := t.tb.length, n2 := r2.tb.length }
theorem pdT_ok {r1 r2 : Raw} {t : Tr} (o1 : RawOk r1) (o2 : RawOk r2) (ot : TrOk t) (e1 : t.src = r1.ls) (e2 : t.tgt = r2.ls) : (pdT r1 r2 t).Ok := by
  refine ⟨o1.n3, ot.n4, o2.n3, Nat.le_trans o1.al.le (by decide), fun s c hs hc => ?_, fun s1 s c h1 hs hc => ?_, fun s2 s c h2 hs hc => ?_⟩
  · obtain ⟨_, _, _, h, _⟩ := ot.at hs (by rw [e1]; exact hc)
    exact h
  · obtain ⟨_, _, _, h, _⟩ := o1.at h1 hc
    exact h
  · show runL (rD r2) s2 (tO t s c) < _
    obtain ⟨_, _, _, _, h⟩ := ot.at hs (by rw [e1]; exact hc)
    rcases h with q | ⟨c', hc', q⟩
    · rw [q]
      exact h2
    · rw [q]
      obtain ⟨_, _, _, h, _⟩ := o2.at h2 (by rw [← e2]; exact hc')
      exact h
def sp_translator_edges (K : PySem.W.Frag) : Sp := fun vs H Q _ => ∃ (a b m : Addr) (r1 r2 : Raw) (t : Tr), vs = [.ref a, .ref b, .ref m] ∧ MacV K H a r1 ∧ MacV K H b r2 ∧ TrV K H m t ∧ RawOk r1 ∧ RawOk r2 ∧ TrOk t ∧ t.src = r1.ls ∧ t.tgt = r2.ls ∧
  ∀ q bq d H' kvs g, Same H H' → H' q = some (.tup [.ref bq, .ref d]) → H' bq = some (.tup ((nd3 r1.st t.st r2.st).map kV)) → GphAt H' d kvs g → GR g (nd3 r1.st t.st r2.st) → (pdT r1 r2 t).Gr g → Q (.ref q) H'
theorem sc_translator_edges : FnScope ["one", "other", "translator", "begin", "edges", "line", "node", "first", "state", "second", "letter", "left", "seen", "later", "output", "right", "priority", "tag", "target"] ["one", "other", "translator"] (defScope s_g_translator_edges) := ⟨rfl, rfl, rfl, by decide +kernel, rfl, by decide +kernel, by decide +kernel⟩
theorem ok_translator_edges (T : Tp K mg) (M_Machine_start : MOk P w K mg base "Machine" "start" 1 ["self"] (sp_Machine_start K)) (M_Translator_start : MOk P w K mg base "Translator" "start" 1 ["self"] (sp_Translator_start K)) (M_Machine_letters : MOk P w K mg base "Machine" "letters" 1 ["self"] (sp_Machine_letters K)) (M_Machine_step : MOk P w K mg base "Machine" "step" 1 ["self", "state", "letter"] (sp_Machine_step K)) (M_Translator_step : MOk P w K mg base "Translator" "step" 1 ["self", "state", "letter"] (sp_Translator_step K)) : GOk P w K mg base "translator_edges" 2 ["one", "other", "translator"] (sp_translator_edges K) := by
  refine gok_of (st := s_g_translator_edges) T.fd_g_translator_edges T.g_translator_edges sc_translator_edges (fun _ _ _ _ _ _ us hl => match us, hl with | [_, _, _], _ => rfl) (fun vs H Q E h => ?_) (fun cdv A outer s H vs Q E hr h => ?_)
  · obtain ⟨a, b, m, r1, r2, t, rfl, _⟩ := h
    rfl
  · obtain ⟨a, b, m, r1, r2, t, rfl, mA, mB, mM, o1, o2, ot, e1, e2, k⟩ := h
    have hu := hu_of hr
    refine ⟨_, (pss_cons (ps_set (i := 3) sc_translator_edges.nd rfl (by first | exact Or.inl rfl | exact Or.inr rfl) (pe_tup (pa_cons (pe_mz M_Machine_start (hr.mono (by decide)) (pv 0)) (pa_cons (pe_mz M_Translator_start (hr.mono (by decide)) (pv 2)) (pa_cons (pe_mz M_Machine_start (hr.mono (by decide)) (pv 1)) pa_nil)))))
      (pss_cons (ps_par (i := 4) (j := 5) (by rfl) sc_translator_edges.nd rfl rfl (by decide) rfl rfl (pa_cons pe_dnewT (pa_cons (pe_lst (pa_cons (pv 3) pa_nil)) pa_nil)) (by rfl))
      (pss_cons (ps_while PassesOwn.never (pt_cmpR (op_neNil hr.units0) (pv 5) (pe_lst pa_nil) (nomark _)) (pss_cons (ps_set (i := 6) sc_translator_edges.nd rfl (by first | exact Or.inl rfl | exact Or.inr rfl) (pe_bm PySem.F.plainAttrs_list PySem.F.slot_list_pop PySem.F.type_list_pop mt_popAt (pv 5) (pa_cons pe_int pa_nil)))
      (pss_one (ps_if (pt_cmp (pc_dnotin hu (pv 6) (pv 4))) (pss_cons (ps_asg (pv 6) (pg_tupK K (n := 3) (by rfl) (pgs_cons (pg_name (i := 7) sc_translator_edges.nd rfl (by first | exact Or.inl rfl | exact Or.inr rfl)) (pgs_cons (pg_name (i := 8) sc_translator_edges.nd rfl (by first | exact Or.inl rfl | exact Or.inr rfl)) (pgs_cons (pg_name (i := 9) sc_translator_edges.nd rfl (by first | exact Or.inl rfl | exact Or.inr rfl)) pgs_nil)))))
      (pss_cons (ps_dput hu (pv 4) (pv 6) (pe_lst pa_nil) rfl)
      (pss_cons (ps_for PassesOwn.never rfl (pi_str (pe_mz M_Machine_letters (hr.mono (by decide)) (pv 0))) (pg_name (i := 10) sc_translator_edges.nd rfl (by first | exact Or.inl rfl | exact Or.inr rfl)) (pss_cons (ps_asg (pe_m M_Machine_step (hr.mono (by decide)) (pv 0) (pa_cons (pv 7) (pa_cons (pv 10) pa_nil))) (pg_tupK K (n := 2) (by rfl) (pgs_cons (pg_name (i := 11) sc_translator_edges.nd rfl (by first | exact Or.inl rfl | exact Or.inr rfl)) (pgs_cons (pg_name (i := 12) sc_translator_edges.nd rfl (by first | exact Or.inl rfl | exact Or.inr rfl)) pgs_nil))))
      (pss_cons (ps_asg (pe_m M_Translator_step (hr.mono (by decide)) (pv 2) (pa_cons (pv 8) (pa_cons (pv 10) pa_nil))) (pg_tupK K (n := 2) (by rfl) (pgs_cons (pg_name (i := 13) sc_translator_edges.nd rfl (by first | exact Or.inl rfl | exact Or.inr rfl)) (pgs_cons (pg_name (i := 14) sc_translator_edges.nd rfl (by first | exact Or.inl rfl | exact Or.inr rfl)) pgs_nil))))
      (Evl.pss_cut (ps_asg (pe_ifExp (pt_cmpR op_eq (pv 14) pe_str (nomark _)) (pe_tup (pa_cons (pv 9) (pa_cons (pe_gi T.NONE) pa_nil))) (pe_m M_Machine_step (hr.mono (by decide)) (pv 1) (pa_cons (pv 9) (pa_cons (pv 14) pa_nil)))) (pg_tupK K (n := 2) (by rfl) (pgs_cons (pg_name (i := 15) sc_translator_edges.nd rfl (by first | exact Or.inl rfl | exact Or.inr rfl)) (pgs_cons (pg_name (i := 16) sc_translator_edges.nd rfl (by first | exact Or.inl rfl | exact Or.inr rfl)) pgs_nil))))
      (pss_one (ps_expr (pe_bm PySem.F.plainAttrs_list PySem.F.slot_list_append PySem.F.type_list_append mt_append (pe_dget hu (pv 4) (pv 6) (fun _ _ => rfl)) (pa_cons (pe_tup (pa_cons (pe_tup (pa_cons (pv 10) (pa_cons (pv 12) (pa_cons (pv 16) pa_nil)))) (pa_cons (pe_tup (pa_cons (pv 11) (pa_cons (pv 13) (pa_cons (pv 15) pa_nil)))) pa_nil))) pa_nil))))))))
      (pss_one (ps_expr (pe_bm PySem.F.plainAttrs_list PySem.F.slot_list_extend PySem.F.type_list_extend mt_extend (pv 5) (pa_cons (pe_lc (own := [("tag", 17), ("target", 18)]) (by rfl) sc_translator_edges.nd (pi_list (pe_dget hu (pv 4) (pv 6) (fun _ _ => rfl))) (blkOk_by (own := [("tag", 17), ("target", 18)]) (N := ["one", "other", "translator", "begin", "edges", "line", "node", "first", "state", "second", "letter", "left", "seen", "later", "output", "right", "priority", "tag", "target"]) (sc := defScope s_g_translator_edges) (by decide +kernel)) (fun _ _ _ _ _ => (pg_tupK K (n := 2) (by rfl) (pgs_cons (pg_name (i := 17) sc_translator_edges.nd rfl (by first | exact Or.inl rfl | exact Or.inr rfl)) (pgs_cons (pg_name (i := 18) sc_translator_edges.nd rfl (by first | exact Or.inl rfl | exact Or.inr rfl)) pgs_nil)))) (fun _ _ _ _ _ => pts_nil) (fun _ _ _ _ _ => (pv 18))) pa_nil))))))) pss_nil))))
      (pss_one (ps_ret (pe_tup (pa_cons (pv 3) (pa_cons (pv 4) pa_nil)))))))), ?_⟩
    have lsz : ∀ {x : Nat}, x ≤ 100000 → x < sizeLine := fun {x} hx => by
      rw [sizeLine_eq]
      omega
    have pok := pdT_ok o1 o2 ot e1 e2
    have PG := Pd.pgd pok
    obtain ⟨_, _, hA, _⟩ := _root_.id mA
    obtain ⟨_, _, hB, _⟩ := _root_.id mB
    obtain ⟨_, _, hM, _⟩ := _root_.id mM
    refine ⟨_, rfl, a, _, _, rfl, hA, rfl, a, r1, rfl, mA, _, rfl, m, _, _, rfl, hM, rfl, m, t, rfl, mM, _, rfl, b, _, _, rfl, hB, rfl, b, r2, rfl, mB, (by show 3 ≤ sizeLine; decide), fun bq hbq => ?_⟩
    have sb := same_new (o := .tup [V.int r1.st, V.int t.st, V.int r2.st]) hbq
    have hbq1 : (upd H bq (.tup [V.int r1.st, V.int t.st, V.int r2.st])) bq = some (.tup ((nd3 r1.st t.st r2.st).map kV)) := upd_same
    generalize upd H bq (.tup [V.int r1.st, V.int t.st, V.int r2.st]) = H0 at sb hbq1 ⊢
    intro d hd
    refine ⟨_, rfl, (by show 1 ≤ sizeLine; decide), fun ld hld => ⟨_, _, rfl, ?_⟩⟩
    have s1 := same_new (o := .dT []) hd
    have ndl : d ≠ ld := fun e => by
      rw [← e, upd_same] at hld
      cases hld
    have nld : H0 ld = none := by
      rw [upd_ne ndl.symm] at hld
      exact hld
    obtain ⟨H1, eH1⟩ : ∃ H1, H1 = upd (upd H0 d (.dT [])) ld (.lst [V.ref bq]) := ⟨_, rfl⟩
    rw [← eH1]
    have sH1 : Same H0 H1 := by
      rw [eH1]
      exact same_mut s1 nld
    have hd1 : H1 d = some (.dT []) := by rw [eH1, upd_ne ndl, upd_same]
    have hl1 : H1 ld = some (.lst [V.ref bq]) := by rw [eH1]; exact upd_same
    clear eH1 hld s1
    have okn0 : (pdT r1 r2 t).okn (nd3 r1.st t.st r2.st) := ⟨_, _, _, rfl, o1.st, ot.st, o2.st⟩
    refine ⟨fun mm σ H' => ∃ r6 r7 r8 r9 r10 r11 r12 r13 r14 r15 r16 kvs g lv ln, σ = [some (V.ref a), some (V.ref b), some (V.ref m), some (V.ref bq), some (V.ref d), some (V.ref ld), r6, r7, r8, r9, r10, r11, r12, r13, r14, r15, r16, none, none] ∧ Same H0 H' ∧ H' d = some (.dT kvs) ∧ Paired (EntL ld H') kvs g ∧ H' ld = some (.lst lv) ∧ Paired (KeyV H') lv ln ∧
      BI (pdT r1 r2 t).succ (pdT r1 r2 t).okn (nd3 r1.st t.st r2.st) g ln ∧ mm = 5 * (36 - g.length) + ln.length ∧ mm ≤ 1000, ⟨_, _, _, _, _, _, _, _, _, _, _, _, [], [], [V.ref bq], [nd3 r1.st t.st r2.st], rfl, sH1, hd1, .nil, hl1, .cons ⟨bq, rfl, sH1 _ _ hbq1⟩ .nil, BI.start okn0, rfl, by show 5 * (36 - 0) + 1 ≤ 1000; decide⟩, ?_⟩
    rintro mm σ H2 ⟨r6, r7, r8, r9, r10, r11, r12, r13, r14, r15, r16, kvs, g, lv, ln, rfl, S2, hd2, pe2, hl2, pl2, bi, emm, mle⟩
    refine ⟨_, rfl, Nat.zero_le _, fun e0 he0 => ⟨ld, e0, _, rfl, rfl, SqL.of (by rw [upd_ne (ne_of_none hl2 he0)]; exact hl2), SqL.of upd_same, _, rfl, ?_⟩⟩
    have se : Same H2 (upd H2 e0 (.lst [])) := same_new he0
    generalize upd H2 e0 (.lst []) = H3 at se ⊢
    have y3 : SameY d ld H2 H3 := (SameY.refl d ld H2).then se
    have hd3 := se _ _ hd2
    have hl3 := se _ _ hl2
    have pe3 := paired_imp pe2 fun _ _ r => EntL.mono y3 hd2 hl2 r
    cases pl2 with
    | nil =>
      refine iteF ?_
      refine ⟨_, rfl, _, rfl, (by show 2 ≤ sizeLine; decide), fun q hq => ?_⟩
      have sq := same_new (o := .tup [V.ref bq, V.ref d]) hq
      have S4 := (S2.trans se).trans sq
      refine k q bq d _ kvs g (sb.trans S4) upd_same (S4 _ _ hbq1) ⟨sq _ _ hd3, paired_imp pe3 fun _ _ r => (EntL.mono ((SameY.refl d ld H3).then sq) hd3 hl3 r).toV⟩ (bi.done PG) ⟨fun u hu => (bi.key u hu).1, bi.val⟩
    | @cons xv u lv ln hx pl2 =>
      obtain ⟨xa, rfl, hxa⟩ := hx
      refine iteT ⟨_, fun _ _ h => h, ?_⟩
      refine ⟨_, rfl, .inl ⟨rfl, _, SqL.of hl3⟩, ld, _, _, 0, _, rfl, rfl, hl3, by decide, by decide, ?_, rfl, ?_⟩
      · show seqIndex? 0 ((V.ref xa :: lv).length) = some 0
        exact (ixN_seq (n := (V.ref xa :: lv).length) (i := 0) (j := 0) (by unfold ixN; simp)).1
      rw [show (V.ref xa :: lv).eraseIdx 0 = lv from rfl]
      have y4 : SameY d ld H2 (upd H3 ld (.lst lv)) := y3.putL
      have hl4 : (upd H3 ld (.lst lv)) ld = some (.lst lv) := upd_same
      have hd4 : (upd H3 ld (.lst lv)) d = some (.dT kvs) := by rw [upd_ne ndl]; exact hd3
      generalize upd H3 ld (.lst lv) = H4 at y4 hl4 hd4 ⊢
      have t4 := y4.ts hd2 hl2
      have hxa4 := t4 _ _ hxa
      have pe4 := paired_imp pe2 fun _ _ r => EntL.mono y4 hd2 hl2 r
      have pl4 := paired_imp pl2 fun _ _ r => r.mono t4
      have S4 : Same H0 H4 := SameY.same S2 y4 hd nld
      have keysEq := entl_keys pe4
      have lenL := paired_len pl4
      rw [List.length_cons] at emm
      clear y3 hd3 hl3 pe3 se he0 pe2 hl2 hd2 hxa pl2 y4 t4 S2
      refine ⟨_, rfl, _, rfl, d, _, rfl, DGet.t hd4 hxa4, _, rfl, ?_⟩
      by_cases hin : u ∈ gkeys g
      · have e1 : (!(valV kvs u).isSome) = false := by
          rw [valV_mem.mpr (by rw [keysEq]; exact hin)]
          rfl
        rw [e1]
        refine iteF ?_
        exact ⟨_, by omega, _, _, _, _, _, _, _, _, _, _, _, kvs, g, lv, ln, rfl, S4, hd4, pe4, hl4, pl4, bi.skip hin, rfl, by omega⟩
      have nval : valV kvs u = none := by
        have : ¬ (valV kvs u).isSome = true := fun z => hin (by rw [← keysEq]; exact valV_mem.mp z)
        simpa using this
      rw [nval]
      refine iteT ?_
      obtain ⟨⟨s1, s, s2, rfl, b1, bt, b2⟩, _⟩ := bi.lnk u List.mem_cons_self
      refine ⟨_, rfl, xa, _, rfl, SqT.of hxa4, rfl, _, _, rfl, _, _, rfl, _, _, rfl, rfl, ?_⟩
      refine ⟨Nat.zero_le _, fun l hl => ?_⟩
      have sl := same_new (o := .lst []) hl
      have nkd : l ≠ d := (ne_of_none hd4 hl).symm
      have nkl : l ≠ ld := (ne_of_none hl4 hl).symm
      have kl : kvs.length ≤ 100000 := by
        have h1 := paired_len pe4
        have h2 := bi.len PG
        omega
      refine ⟨_, rfl, _, rfl, d, _, rfl, DPut.t (sl _ _ hd4) (sl _ _ hxa4) (lsz kl), ?_⟩
      rw [putK_new _ nval]
      have y5 : SameY d ld H4 (upd (upd H4 l (.lst [])) d (.dT (kvs ++ [(nd3 s1 s s2, V.ref l)]))) := (SameY.then (SameY.refl d ld H4) sl).putD
      have hd5 : (upd (upd H4 l (.lst [])) d (.dT (kvs ++ [(nd3 s1 s s2, V.ref l)]))) d = some (.dT (kvs ++ [(nd3 s1 s s2, V.ref l)])) := upd_same
      have hl5 : (upd (upd H4 l (.lst [])) d (.dT (kvs ++ [(nd3 s1 s s2, V.ref l)]))) ld = some (.lst lv) := by rw [upd_ne ndl.symm]; exact sl _ _ hl4
      have he5 : (upd (upd H4 l (.lst [])) d (.dT (kvs ++ [(nd3 s1 s s2, V.ref l)]))) l = some (.lst []) := by rw [upd_ne nkd]; exact upd_same
      generalize upd (upd H4 l (.lst [])) d (.dT (kvs ++ [(nd3 s1 s s2, V.ref l)])) = H5 at y5 hd5 hl5 he5 ⊢
      have S5 : Same H0 H5 := SameY.same S4 y5 hd nld
      have SH5 := sb.trans S5
      obtain ⟨_, _, hA5, _⟩ := _root_.id (mA.mono SH5)
      refine ⟨_, rfl, a, _, _, rfl, hA5, rfl, a, r1, rfl, mA.mono SH5, _, rfl, ?_⟩
      have key5 : valV (kvs ++ [(nd3 s1 s s2, V.ref l)]) (nd3 s1 s s2) = some (V.ref l) := by
        rw [← putK_new _ nval, valV_put, if_pos rfl]
      refine for_it walk_str (fun i σ H' => ∃ r10 r11 r12 r13 r14 r15 r16, σ = [some (V.ref a), some (V.ref b), some (V.ref m), some (V.ref bq), some (V.ref d), some (V.ref ld), some (V.ref xa), some (V.int s1), some (V.int s), some (V.int s2), r10, r11, r12, r13, r14, r15, r16, none, none] ∧ SameY d ld H4 H' ∧ H' d = some (.dT (kvs ++ [(nd3 s1 s s2, V.ref l)])) ∧ H' ld = some (.lst lv) ∧
        ∃ vs, H' l = some (.lst vs) ∧ Paired (EdgeV H') vs ((r1.ls.take i).map ((pdT r1 r2 t).edge s1 s s2))) ⟨_, _, _, _, _, _, _, rfl, y5, hd5, hl5, [], he5, .nil⟩ (fun _ _ _ _ _ => trivial) ?_ ?_
      · rintro i x σ H6 H7 hi ⟨r10, r11, r12, r13, r14, r15, r16, rfl, y6, hd6, hl6, vs, hv6, pv6⟩ ⟨rfl, c, hc, rfl⟩
        have hc' : r1.ls[i]? = some c := by
          have : r1.ls.toArray[i]? = some c := hc
          rw [List.getElem?_toArray] at this
          exact this
        have cm := List.mem_of_getElem? hc'
        have SH6 := sb.trans (SameY.same S4 y6 hd nld)
        have mA6 := mA.mono SH6
        obtain ⟨_, _, hA6, _⟩ := _root_.id mA6
        refine ⟨_, rfl, a, _, _, rfl, hA6, rfl, _, rfl, _, rfl, a, r1, s1, c, rfl, mA6, o1, b1, cm, fun q1 H8 s8 hq1 => ?_⟩
        refine ⟨q1, _, rfl, SqT.of hq1, rfl, _, _, rfl, _, _, rfl, rfl, ?_⟩
        have mM8 := mM.mono (SH6.trans s8)
        obtain ⟨_, _, hM8, _⟩ := _root_.id mM8
        refine ⟨_, rfl, m, _, _, rfl, hM8, rfl, _, rfl, _, rfl, m, t, s, c, rfl, mM8, ot, bt, e1 ▸ cm, fun q2 H9 s9 hq2 => ?_⟩
        refine ⟨q2, _, rfl, SqT.of hq2, rfl, _, _, rfl, _, _, rfl, rfl, ?_⟩
        have SH9 := (SH6.trans s8).trans s9
        have y9 := (y6.then s8).then s9
        have hd9 := s9 _ _ (s8 _ _ hd6)
        have hl9 := s9 _ _ (s8 _ _ hl6)
        have hv9 := s9 _ _ (s8 _ _ hv6)
        have pv9 := paired_imp pv6 fun _ _ r => r.mono (.of (s8.trans s9))
        clear hq1 hq2 s8 s9 hA6 hM8 mA6 mM8 hd6 hl6 hv6 pv6 y6 SH6
        have tO1 := (ot.at bt (by rw [e1]; exact cm)).choose_spec.2.2.2
        have ct : c ∈ t.src := by rw [e1]; exact cm
        refine ⟨fun σ' H' => σ' = [some (V.ref a), some (V.ref b), some (V.ref m), some (V.ref bq), some (V.ref d), some (V.ref ld), some (V.ref xa), some (V.int s1), some (V.int s), some (V.int s2), some (V.str ⟨#[c]⟩), some (V.int (rD r1 s1 c)), some (V.int (rG r1 s1 c)), some (V.int (tD t s c)), some (V.str (S (tO t s c))), some (V.int (runL (rD r2) s2 (tO t s c) : Nat)), some (V.int (prio (rD r2) (rG r2) s2 (tO t s c))), none, none] ∧ Same H9 H', ?_, ?_⟩
        · refine ⟨_, rfl, rfl, _, rfl, ?_⟩
          rw [lit_nil, dec_str]
          rcases tO1 with eo | ⟨c', hc', eo⟩
          · rw [eo]
            refine iteT ⟨_, rfl, (by show 2 ≤ sizeLine; decide), fun p hp => ⟨p, _, rfl, SqT.of upd_same, rfl, _, _, rfl, _, _, rfl, rfl, ?_, same_new hp⟩⟩
            rfl
          · rw [eo]
            have mB9 := mB.mono SH9
            obtain ⟨_, _, hB9, _⟩ := _root_.id mB9
            refine iteF ⟨_, rfl, b, _, _, rfl, hB9, rfl, _, rfl, _, rfl, b, r2, s2, c', rfl, mB9, o2, b2, by rw [← e2]; exact hc', fun q3 H10 s10 hq3 => ?_⟩
            refine ⟨q3, _, rfl, SqT.of hq3, rfl, _, _, rfl, _, _, rfl, rfl, ?_, s10⟩
            have ep : prio (rD r2) (rG r2) s2 [c'] = (rG r2 s2 c' : Int) := by
              show (if [c'] = [] then (-1 : Int) else ((max (rG r2 s2 c') 0 : Nat) : Int)) = _
              rw [if_neg (List.cons_ne_nil _ _), Nat.max_zero]
            rw [ep]
            rfl
        rintro σ' H10 ⟨rfl, s10⟩
        have hd10 := s10 _ _ hd9
        have hl10 := s10 _ _ hl9
        have hv10 := s10 _ _ hv9
        have pv10 := paired_imp pv9 fun _ _ r => r.mono (.of s10)
        have y10 := y9.then s10
        have hxa10 := (y10.ts hd4 hl4) _ _ hxa4
        clear hd9 hl9 hv9 pv9 SH9
        refine ⟨_, rfl, _, rfl, d, _, rfl, .inr ⟨_, _, xa, .inl hd10, rfl, hxa10, key5.symm⟩, .inl ⟨rfl, _, SqL.of hv10⟩, ?_⟩
        refine ⟨_, rfl, _, rfl, _, rfl, (by show 3 ≤ sizeLine; decide), fun ta hta => ⟨_, rfl, _, rfl, _, rfl, (by show 3 ≤ sizeLine; decide), fun ka hka => ⟨(by show 2 ≤ sizeLine; decide), fun pe hpe => ?_⟩⟩⟩
        have st1 := same_new (o := .tup [V.str ⟨#[c]⟩, V.int (rG r1 s1 c), V.int (prio (rD r2) (rG r2) s2 (tO t s c))]) hta
        have st2 := same_new (o := .tup [V.int (rD r1 s1 c), V.int (tD t s c), V.int (runL (rD r2) s2 (tO t s c) : Nat)]) hka
        have st3 := same_new (o := .tup [V.ref ta, V.ref ka]) hpe
        have hta' := st3 _ _ (st2 _ _ (upd_same (H := H10) (a := ta) (o := .tup [V.str ⟨#[c]⟩, V.int (rG r1 s1 c), V.int (prio (rD r2) (rG r2) s2 (tO t s c))])))
        have hka' := st3 _ _ (upd_same (H := upd H10 ta (.tup [V.str ⟨#[c]⟩, V.int (rG r1 s1 c), V.int (prio (rD r2) (rG r2) s2 (tO t s c))])) (a := ka) (o := .tup [V.int (rD r1 s1 c), V.int (tD t s c), V.int (runL (rD r2) s2 (tO t s c) : Nat)]))
        have hpe' := upd_same (H := upd (upd H10 ta (.tup [V.str ⟨#[c]⟩, V.int (rG r1 s1 c), V.int (prio (rD r2) (rG r2) s2 (tO t s c))])) ka (.tup [V.int (rD r1 s1 c), V.int (tD t s c), V.int (runL (rD r2) s2 (tO t s c) : Nat)])) (a := pe) (o := .tup [V.ref ta, V.ref ka])
        have sT := st1.trans (st2.trans st3)
        generalize upd (upd (upd H10 ta (.tup [V.str ⟨#[c]⟩, V.int (rG r1 s1 c), V.int (prio (rD r2) (rG r2) s2 (tO t s c))])) ka (.tup [V.int (rD r1 s1 c), V.int (tD t s c), V.int (runL (rD r2) s2 (tO t s c) : Nat)])) pe (.tup [V.ref ta, V.ref ka]) = H11 at sT hta' hka' hpe' ⊢
        have hv11 := sT _ _ hv10
        have lp := paired_len pv10
        rw [List.length_map] at lp
        have ll := List.length_take_le' i r1.ls
        have al3 := o1.al.le
        refine ⟨l, vs, V.ref pe, rfl, rfl, hv11, lsz (by omega), ?_⟩
        have tT := (TSame.of sT).trans ((TSame.refl _).mut (o := .lst (vs ++ [V.ref pe])) hv11 fun _ e => nomatch e)
        have tl := (TSame.refl H11).mut (o := .lst (vs ++ [V.ref pe])) hv11 fun _ e => nomatch e
        refine ⟨_, _, _, _, _, _, _, rfl, (y10.then sT).mut hl, by rw [upd_ne nkd.symm]; exact sT _ _ hd10, by rw [upd_ne nkl.symm]; exact sT _ _ hl10, vs ++ [V.ref pe], upd_same, ?_⟩
        rw [List.take_add_one, hc', Option.toList_some, List.map_append, List.map_singleton]
        refine paired_app (paired_imp pv10 fun _ _ r => r.mono tT) (.cons ⟨pe, ta, ka, rfl, tl _ _ hpe', ?_, tl _ _ hka'⟩ .nil)
        have ep : prio (rD r1) (rG r1) s1 [c] = (rG r1 s1 c : Int) := by
          show (if [c] = [] then (-1 : Int) else ((max (rG r1 s1 c) 0 : Nat) : Int)) = _
          rw [if_neg (List.cons_ne_nil _ _), Nat.max_zero]
        have et : tagL ((pdT r1 r2 t).edge s1 s s2 c).1 = [V.str ⟨#[c]⟩, V.int (rG r1 s1 c), V.int (prio (rD r2) (rG r2) s2 (tO t s c))] := by
          show [V.str (S [c]), V.int (prio (rD r1) (rG r1) s1 [c]), V.int (prio (rD r2) (rG r2) s2 (tO t s c))] = _
          rw [ep]
        rw [et]
        exact tl _ _ hta'
      · rintro σ H6 ⟨r10, r11, r12, r13, r14, r15, r16, rfl, y6, hd6, hl6, vs, hv6, pv6⟩
        have el : (S r1.ls).cps.size = r1.ls.length := by
          show r1.ls.toArray.size = _
          rw [List.size_toArray]
        rw [el, List.take_length] at pv6
        have esucc : r1.ls.map ((pdT r1 r2 t).edge s1 s s2) = (pdT r1 r2 t).succ (nd3 s1 s s2) := rfl
        rw [esucc] at pv6
        have t6 := y6.ts hd4 hl4
        have hxa6 := t6 _ _ hxa4
        have pe6 := paired_imp pe4 fun _ _ r => EntL.mono y6 hd4 hl4 r
        have pl6 := paired_imp pl4 fun _ _ r => r.mono t6
        have sucl := PG.deg (nd3 s1 s s2)
        have g36 := bi.len' PG hin
        refine ⟨_, rfl, .inl ⟨rfl, _, SqL.of hl6⟩, ?_⟩
        refine lc_targets (l := l) (es := (pdT r1 r2 t).succ (nd3 s1 s s2)) (fun R hR => ⟨_, rfl, _, rfl, d, _, rfl, .inr ⟨_, _, xa, .inl hd6, rfl, hxa6, key5.symm⟩, hR⟩) hv6 pv6 (by omega) (fun _ _ => rfl) (fun _ _ => rfl) (fun D H7 ws s7 nD hD pD => ?_)
        have lD := paired_len pD
        rw [List.length_map] at lD
        have hl7 := s7 _ _ hl6
        have hd7 := s7 _ _ hd6
        refine ⟨ld, D, lv, ws, rfl, rfl, hl7, hD, Nat.le_of_lt (lsz (by omega)), ?_⟩
        have y8 : SameY d ld H4 (upd H7 ld (.lst (lv ++ ws))) := (y6.then s7).putL
        have t8 := y8.ts hd4 hl4
        have t78 : TSame H7 (upd H7 ld (.lst (lv ++ ws))) := (TSame.refl _).mut hl7 fun _ e => nomatch e
        have t68 := (TSame.of s7).trans t78
        refine ⟨5 * (36 - (g ++ [(nd3 s1 s s2, (pdT r1 r2 t).succ (nd3 s1 s s2))]).length) + (ln ++ ((pdT r1 r2 t).succ (nd3 s1 s s2)).map (·.2)).length, ?_, _, _, _, _, _, _, _, _, _, _, _, kvs ++ [(nd3 s1 s s2, V.ref l)], g ++ [(nd3 s1 s s2, (pdT r1 r2 t).succ (nd3 s1 s s2))], lv ++ ws, ln ++ ((pdT r1 r2 t).succ (nd3 s1 s s2)).map (·.2), rfl, SameY.same S4 y8 hd nld, by rw [upd_ne ndl]; exact hd7,
          paired_app (paired_imp pe4 fun _ _ r => EntL.mono y8 hd4 hl4 r) (.cons ⟨rfl, l, vs, rfl, nkl, by rw [upd_ne nkl]; exact s7 _ _ hv6, paired_imp pv6 fun _ _ r => r.mono t68⟩ .nil), upd_same, paired_app (paired_imp pl4 fun _ _ r => r.mono t8) (paired_imp pD fun _ _ r => r.mono t78), bi.add PG hin, rfl, ?_⟩
        · simp only [List.length_append, List.length_map, List.length_singleton]
          omega
        · simp only [List.length_append, List.length_map, List.length_singleton]
          omega
end
end K42
set_option Elab.async false
set_option linter.all false
set_option maxRecDepth 100000
set_option maxHeartbeats 4000000
namespace K42
open PySem PySem.Spec PyProof.Rows L2

open SX
def pdO (r1 r2 : Raw) (t : Op) (w : Bool) : Pd := { D := oD t, f1 := fun s _ => [oL t s], f2 := fun _ c => if c = 45 then [] else [c], D1 := rD r1, g1 := rG r1, D2 := rD r2, g2 := rG r2, L := r2.ls ++ (if w = true then [45] else []), n1 := r1.tb.length, n := t.tb.length, n2 := r2.tb.length }
theorem no45 : 45 ∉ lowerL := by decide
theorem Alpha.n45 {ls : Wd} (a : Alpha ls) {c : Nat} (h : c ∈ ls) : c ≠ 45 := fun e => no45 (by rw [← e]; exact a.low c h)
theorem pdO_mem {r1 r2 : Raw} {t : Op} {w : Bool} (e2 : t.tgt = r2.ls) {c : Nat} (h : c ∈ (pdO r1 r2 t w).L) : c ∈ 45 :: t.tgt ∧ (c = 45 ∨ c ∈ r2.ls) := by
  rcases List.mem_append.mp h with q | q
  · exact ⟨List.mem_cons_of_mem _ (by rw [e2]; exact q), .inr q⟩
  · have : c = 45 := by
      cases w with
      | true => simpa using q
      | false => simp at q
    subst this
    exact ⟨List.mem_cons_self, .inl rfl⟩
theorem pdO_ok {r1 r2 : Raw} {t : Op} {w : Bool} (o1 : RawOk r1) (o2 : RawOk r2) (ot : OpOk t) (e1 : t.src = r1.ls) (e2 : t.tgt = r2.ls) : (pdO r1 r2 t w).Ok := by
  refine ⟨o1.n3, ot.n4, o2.n3, ?_, fun s c hs hc => ?_, fun s1 s c h1 hs hc => ?_, fun s2 s c h2 hs hc => ?_⟩
  · show (r2.ls ++ (if w = true then [45] else [])).length ≤ 4
    rw [List.length_append]
    have := o2.al.le
    cases w with
    | true =>
      show r2.ls.length + 1 ≤ 4
      omega
    | false =>
      show r2.ls.length + 0 ≤ 4
      omega
  · exact ((ot.at hs).2.2 c (pdO_mem e2 hc).1).2
  · obtain ⟨_, h, _⟩ := ot.at hs
    obtain ⟨_, _, _, h, _⟩ := o1.at h1 (by rw [← e1]; exact h)
    exact h
  · show runL (rD r2) s2 (if c = 45 then [] else [c]) < _
    by_cases q : c = 45
    · rw [if_pos q]
      exact h2
    · rw [if_neg q]
      rcases (pdO_mem e2 hc).2 with z | z
      · exact absurd z q
      · obtain ⟨_, _, _, h, _⟩ := o2.at h2 z
        exact h
def sp_opponent_edges (K : PySem.W.Frag) : Sp := fun vs H Q _ => ∃ (a b m : Addr) (w : Bool) (r1 r2 : Raw) (t : Op), vs = [.ref a, .ref b, .ref m, .bl w] ∧ MacV K H a r1 ∧ MacV K H b r2 ∧ OpV K H m t ∧ RawOk r1 ∧ RawOk r2 ∧ OpOk t ∧ t.src = r1.ls ∧ t.tgt = r2.ls ∧
  ∀ q bq d H' kvs g, Same H H' → H' q = some (.tup [.ref bq, .ref d]) → H' bq = some (.tup ((nd3 r1.st t.st r2.st).map kV)) → GphAt H' d kvs g → GR g (nd3 r1.st t.st r2.st) → (pdO r1 r2 t w).Gr g → Q (.ref q) H'
section
variable {P : Program} {w : World} {K : PySem.W.Frag} {mg : Str → Option Value} {base : Heap}
theorem sc_opponent_edges : FnScope ["one", "other", "opponent", "waits", "begin", "edges", "line", "node", "first", "state", "second", "left", "seen", "answer", "right", "priority", "tag", "target"] ["one", "other", "opponent", "waits"] (defScope s_g_opponent_edges) := ⟨rfl, rfl, rfl, by decide +kernel, rfl, by decide +kernel, by decide +kernel⟩
theorem ok_opponent_edges (T : Tp K mg) (M_Machine_start : MOk P w K mg base "Machine" "start" 1 ["self"] (sp_Machine_start K)) (M_Opponent_start : MOk P w K mg base "Opponent" "start" 1 ["self"] (sp_Opponent_start K)) (M_Machine_step : MOk P w K mg base "Machine" "step" 1 ["self", "state", "letter"] (sp_Machine_step K)) (M_Opponent_letter : MOk P w K mg base "Opponent" "letter" 1 ["self", "state"] (sp_Opponent_letter K)) (M_Machine_letters : MOk P w K mg base "Machine" "letters" 1 ["self"] (sp_Machine_letters K)) (M_Opponent_move : MOk P w K mg base "Opponent" "move" 1 ["self", "state", "answer"] (sp_Opponent_move K)) : GOk P w K mg base "opponent_edges" 2 ["one", "other", "opponent", "waits"] (sp_opponent_edges K) := by
  refine gok_of (st := s_g_opponent_edges) T.fd_g_opponent_edges T.g_opponent_edges sc_opponent_edges (fun _ _ _ _ _ _ us hl => match us, hl with | [_, _, _, _], _ => rfl) (fun vs H Q E h => ?_) (fun cdv A outer s H vs Q E hr h => ?_)
  · obtain ⟨a, b, m, w, r1, r2, t, rfl, _⟩ := h
    rfl
  · obtain ⟨a, b, m, wt, r1, r2, t, rfl, mA, mB, mM, o1, o2, ot, e1, e2, k⟩ := h
    have hu := hu_of hr
    refine ⟨_, (pss_cons (ps_set (i := 4) sc_opponent_edges.nd rfl (by first | exact Or.inl rfl | exact Or.inr rfl) (pe_tup (pa_cons (pe_mz M_Machine_start (hr.mono (by decide)) (pv 0)) (pa_cons (pe_mz M_Opponent_start (hr.mono (by decide)) (pv 2)) (pa_cons (pe_mz M_Machine_start (hr.mono (by decide)) (pv 1)) pa_nil)))))
      (pss_cons (ps_par (i := 5) (j := 6) (by rfl) sc_opponent_edges.nd rfl rfl (by decide) rfl rfl (pa_cons pe_dnewT (pa_cons (pe_lst (pa_cons (pv 4) pa_nil)) pa_nil)) (by rfl))
      (pss_cons (ps_while PassesOwn.never (pt_cmpR (op_neNil hr.units0) (pv 6) (pe_lst pa_nil) (nomark _)) (pss_cons (ps_set (i := 7) sc_opponent_edges.nd rfl (by first | exact Or.inl rfl | exact Or.inr rfl) (pe_bm PySem.F.plainAttrs_list PySem.F.slot_list_pop PySem.F.type_list_pop mt_popAt (pv 6) (pa_cons pe_int pa_nil)))
      (pss_one (ps_if (pt_cmp (pc_dnotin hu (pv 7) (pv 5))) (pss_cons (ps_asg (pv 7) (pg_tupK K (n := 3) (by rfl) (pgs_cons (pg_name (i := 8) sc_opponent_edges.nd rfl (by first | exact Or.inl rfl | exact Or.inr rfl)) (pgs_cons (pg_name (i := 9) sc_opponent_edges.nd rfl (by first | exact Or.inl rfl | exact Or.inr rfl)) (pgs_cons (pg_name (i := 10) sc_opponent_edges.nd rfl (by first | exact Or.inl rfl | exact Or.inr rfl)) pgs_nil)))))
      (pss_cons (ps_asg (pe_m M_Machine_step (hr.mono (by decide)) (pv 0) (pa_cons (pv 8) (pa_cons (pe_m M_Opponent_letter (hr.mono (by decide)) (pv 2) (pa_cons (pv 9) pa_nil)) pa_nil))) (pg_tupK K (n := 2) (by rfl) (pgs_cons (pg_name (i := 11) sc_opponent_edges.nd rfl (by first | exact Or.inl rfl | exact Or.inr rfl)) (pgs_cons (pg_name (i := 12) sc_opponent_edges.nd rfl (by first | exact Or.inl rfl | exact Or.inr rfl)) pgs_nil))))
      (pss_cons (ps_dput hu (pv 5) (pv 7) (pe_lst pa_nil) rfl)
      (pss_cons (ps_for PassesOwn.never rfl (pi_str (pe_mz M_Machine_letters (hr.mono (by decide)) (pv 1))) (pg_name (i := 13) sc_opponent_edges.nd rfl (by first | exact Or.inl rfl | exact Or.inr rfl)) (pss_cons (ps_asg (pe_m M_Machine_step (hr.mono (by decide)) (pv 1) (pa_cons (pv 10) (pa_cons (pv 13) pa_nil))) (pg_tupK K (n := 2) (by rfl) (pgs_cons (pg_name (i := 14) sc_opponent_edges.nd rfl (by first | exact Or.inl rfl | exact Or.inr rfl)) (pgs_cons (pg_name (i := 15) sc_opponent_edges.nd rfl (by first | exact Or.inl rfl | exact Or.inr rfl)) pgs_nil))))
      (pss_one (ps_expr (pe_bm PySem.F.plainAttrs_list PySem.F.slot_list_append PySem.F.type_list_append mt_append (pe_dget hu (pv 5) (pv 7) (fun _ _ => rfl)) (pa_cons (pe_tup (pa_cons (pe_tup (pa_cons (pv 13) (pa_cons (pv 12) (pa_cons (pv 15) pa_nil)))) (pa_cons (pe_tup (pa_cons (pv 11) (pa_cons (pe_m M_Opponent_move (hr.mono (by decide)) (pv 2) (pa_cons (pv 9) (pa_cons (pv 13) pa_nil))) (pa_cons (pv 14) pa_nil)))) pa_nil))) pa_nil))))))
      (Evl.pss_cut (ps_if (pt_val (pv 3)) (pss_one (ps_expr (pe_bm PySem.F.plainAttrs_list PySem.F.slot_list_append PySem.F.type_list_append mt_append (pe_dget hu (pv 5) (pv 7) (fun _ _ => rfl)) (pa_cons (pe_tup (pa_cons (pe_tup (pa_cons (pe_gs T.WAIT) (pa_cons (pv 12) (pa_cons (pe_gi T.NONE) pa_nil)))) (pa_cons (pe_tup (pa_cons (pv 11) (pa_cons (pe_m M_Opponent_move (hr.mono (by decide)) (pv 2) (pa_cons (pv 9) (pa_cons (pe_gs T.WAIT) pa_nil))) (pa_cons (pv 10) pa_nil)))) pa_nil))) pa_nil)))) pss_nil)
      (pss_one (ps_expr (pe_bm PySem.F.plainAttrs_list PySem.F.slot_list_extend PySem.F.type_list_extend mt_extend (pv 6) (pa_cons (pe_lc (own := [("tag", 16), ("target", 17)]) (by rfl) sc_opponent_edges.nd (pi_list (pe_dget hu (pv 5) (pv 7) (fun _ _ => rfl))) (blkOk_by (own := [("tag", 16), ("target", 17)]) (N := ["one", "other", "opponent", "waits", "begin", "edges", "line", "node", "first", "state", "second", "left", "seen", "answer", "right", "priority", "tag", "target"]) (sc := defScope s_g_opponent_edges) (by decide +kernel)) (fun _ _ _ _ _ => (pg_tupK K (n := 2) (by rfl) (pgs_cons (pg_name (i := 16) sc_opponent_edges.nd rfl (by first | exact Or.inl rfl | exact Or.inr rfl)) (pgs_cons (pg_name (i := 17) sc_opponent_edges.nd rfl (by first | exact Or.inl rfl | exact Or.inr rfl)) pgs_nil)))) (fun _ _ _ _ _ => pts_nil) (fun _ _ _ _ _ => (pv 17))) pa_nil))))))))) pss_nil))))
      (pss_one (ps_ret (pe_tup (pa_cons (pv 4) (pa_cons (pv 5) pa_nil)))))))), ?_⟩
    have lsz : ∀ {x : Nat}, x ≤ 100000 → x < sizeLine := fun {x} hx => by
      rw [sizeLine_eq]
      omega
    have pok := pdO_ok (w := wt) o1 o2 ot e1 e2
    have PG := Pd.pgd pok
    obtain ⟨_, _, hA, _⟩ := _root_.id mA
    obtain ⟨_, _, hB, _⟩ := _root_.id mB
    obtain ⟨_, _, hM, _⟩ := _root_.id mM
    refine ⟨_, rfl, a, _, _, rfl, hA, rfl, a, r1, rfl, mA, _, rfl, m, _, _, rfl, hM, rfl, m, t, rfl, mM, _, rfl, b, _, _, rfl, hB, rfl, b, r2, rfl, mB, (by show 3 ≤ sizeLine; decide), fun bq hbq => ?_⟩
    have sb := same_new (o := .tup [V.int r1.st, V.int t.st, V.int r2.st]) hbq
    have hbq1 : (upd H bq (.tup [V.int r1.st, V.int t.st, V.int r2.st])) bq = some (.tup ((nd3 r1.st t.st r2.st).map kV)) := upd_same
    generalize upd H bq (.tup [V.int r1.st, V.int t.st, V.int r2.st]) = H0 at sb hbq1 ⊢
    intro d hd
    refine ⟨_, rfl, (by show 1 ≤ sizeLine; decide), fun ld hld => ⟨_, _, rfl, ?_⟩⟩
    have s1 := same_new (o := .dT []) hd
    have ndl : d ≠ ld := fun e => by
      rw [← e, upd_same] at hld
      cases hld
    have nld : H0 ld = none := by
      rw [upd_ne ndl.symm] at hld
      exact hld
    obtain ⟨H1, eH1⟩ : ∃ H1, H1 = upd (upd H0 d (.dT [])) ld (.lst [V.ref bq]) := ⟨_, rfl⟩
    rw [← eH1]
    have sH1 : Same H0 H1 := by
      rw [eH1]
      exact same_mut s1 nld
    have hd1 : H1 d = some (.dT []) := by rw [eH1, upd_ne ndl, upd_same]
    have hl1 : H1 ld = some (.lst [V.ref bq]) := by rw [eH1]; exact upd_same
    clear eH1 hld s1
    have okn0 : (pdO r1 r2 t wt).okn (nd3 r1.st t.st r2.st) := ⟨_, _, _, rfl, o1.st, ot.st, o2.st⟩
    refine ⟨fun mm σ H' => ∃ r7 r8 r9 r10 r11 r12 r13 r14 r15 kvs g lv ln, σ = [some (V.ref a), some (V.ref b), some (V.ref m), some (V.bl wt), some (V.ref bq), some (V.ref d), some (V.ref ld), r7, r8, r9, r10, r11, r12, r13, r14, r15, none, none] ∧ Same H0 H' ∧ H' d = some (.dT kvs) ∧ Paired (EntL ld H') kvs g ∧ H' ld = some (.lst lv) ∧ Paired (KeyV H') lv ln ∧
      BI (pdO r1 r2 t wt).succ (pdO r1 r2 t wt).okn (nd3 r1.st t.st r2.st) g ln ∧ mm = 5 * (36 - g.length) + ln.length ∧ mm ≤ 1000, ⟨_, _, _, _, _, _, _, _, _, _, [], [], [V.ref bq], [nd3 r1.st t.st r2.st], rfl, sH1, hd1, .nil, hl1, .cons ⟨bq, rfl, sH1 _ _ hbq1⟩ .nil, BI.start okn0, rfl, by show 5 * (36 - 0) + 1 ≤ 1000; decide⟩, ?_⟩
    rintro mm σ H2 ⟨r7, r8, r9, r10, r11, r12, r13, r14, r15, kvs, g, lv, ln, rfl, S2, hd2, pe2, hl2, pl2, bi, emm, mle⟩
    refine ⟨_, rfl, Nat.zero_le _, fun e0 he0 => ⟨ld, e0, _, rfl, rfl, SqL.of (by rw [upd_ne (ne_of_none hl2 he0)]; exact hl2), SqL.of upd_same, _, rfl, ?_⟩⟩
    have se : Same H2 (upd H2 e0 (.lst [])) := same_new he0
    generalize upd H2 e0 (.lst []) = H3 at se ⊢
    have y3 : SameY d ld H2 H3 := (SameY.refl d ld H2).then se
    have hd3 := se _ _ hd2
    have hl3 := se _ _ hl2
    have pe3 := paired_imp pe2 fun _ _ r => EntL.mono y3 hd2 hl2 r
    cases pl2 with
    | nil =>
      refine iteF ?_
      refine ⟨_, rfl, _, rfl, (by show 2 ≤ sizeLine; decide), fun q hq => ?_⟩
      have sq := same_new (o := .tup [V.ref bq, V.ref d]) hq
      have S4 := (S2.trans se).trans sq
      refine k q bq d _ kvs g (sb.trans S4) upd_same (S4 _ _ hbq1) ⟨sq _ _ hd3, paired_imp pe3 fun _ _ r => (EntL.mono ((SameY.refl d ld H3).then sq) hd3 hl3 r).toV⟩ (bi.done PG) ⟨fun u hu => (bi.key u hu).1, bi.val⟩
    | @cons xv u lv ln hx pl2 =>
      obtain ⟨xa, rfl, hxa⟩ := hx
      refine iteT ⟨_, fun _ _ h => h, ?_⟩
      refine ⟨_, rfl, .inl ⟨rfl, _, SqL.of hl3⟩, ld, _, _, 0, _, rfl, rfl, hl3, by decide, by decide, ?_, rfl, ?_⟩
      · show seqIndex? 0 ((V.ref xa :: lv).length) = some 0
        exact (ixN_seq (n := (V.ref xa :: lv).length) (i := 0) (j := 0) (by unfold ixN; simp)).1
      rw [show (V.ref xa :: lv).eraseIdx 0 = lv from rfl]
      have y4 : SameY d ld H2 (upd H3 ld (.lst lv)) := y3.putL
      have hl4 : (upd H3 ld (.lst lv)) ld = some (.lst lv) := upd_same
      have hd4 : (upd H3 ld (.lst lv)) d = some (.dT kvs) := by rw [upd_ne ndl]; exact hd3
      generalize upd H3 ld (.lst lv) = H4 at y4 hl4 hd4 ⊢
      have t4 := y4.ts hd2 hl2
      have hxa4 := t4 _ _ hxa
      have pe4 := paired_imp pe2 fun _ _ r => EntL.mono y4 hd2 hl2 r
      have pl4 := paired_imp pl2 fun _ _ r => r.mono t4
      have S4 : Same H0 H4 := SameY.same S2 y4 hd nld
      have keysEq := entl_keys pe4
      have lenL := paired_len pl4
      rw [List.length_cons] at emm
      clear y3 hd3 hl3 pe3 se he0 pe2 hl2 hd2 hxa pl2 y4 t4 S2
      refine ⟨_, rfl, _, rfl, d, _, rfl, DGet.t hd4 hxa4, _, rfl, ?_⟩
      by_cases hin : u ∈ gkeys g
      · have e1 : (!(valV kvs u).isSome) = false := by
          rw [valV_mem.mpr (by rw [keysEq]; exact hin)]
          rfl
        rw [e1]
        refine iteF ?_
        exact ⟨_, by omega, _, _, _, _, _, _, _, _, _, kvs, g, lv, ln, rfl, S4, hd4, pe4, hl4, pl4, bi.skip hin, rfl, by omega⟩
      have nval : valV kvs u = none := by
        have : ¬ (valV kvs u).isSome = true := fun z => hin (by rw [← keysEq]; exact valV_mem.mp z)
        simpa using this
      rw [nval]
      refine iteT ?_
      obtain ⟨⟨s1, s, s2, rfl, b1, bt, b2⟩, _⟩ := bi.lnk u List.mem_cons_self
      refine ⟨_, rfl, xa, _, rfl, SqT.of hxa4, rfl, _, _, rfl, _, _, rfl, _, _, rfl, rfl, ?_⟩
      obtain ⟨_, lmem, _⟩ := ot.at bt
      have lmem1 : oL t s ∈ r1.ls := by rw [← e1]; exact lmem
      have SH4 := sb.trans S4
      obtain ⟨_, _, hA4, _⟩ := _root_.id (mA.mono SH4)
      obtain ⟨_, _, hM4, _⟩ := _root_.id (mM.mono SH4)
      refine ⟨_, rfl, a, _, _, rfl, hA4, rfl, _, rfl, _, rfl, m, _, _, rfl, hM4, rfl, _, rfl, m, t, s, rfl, mM.mono SH4, ot, bt, a, r1, s1, oL t s, rfl, mA.mono SH4, o1, b1, lmem1, fun q1 HA sA hq1 => ?_⟩
      refine ⟨q1, _, rfl, SqT.of hq1, rfl, _, _, rfl, _, _, rfl, rfl, ?_⟩
      have yA : SameY d ld H4 HA := (SameY.refl d ld H4).then sA
      have hdA := sA _ _ hd4
      have hlA := sA _ _ hl4
      have hxaA := sA _ _ hxa4
      clear hq1 hA4 hM4
      refine ⟨Nat.zero_le _, fun l hl => ?_⟩
      have hlH4 : H4 l = none := sA.free hl
      have sl := same_new (o := .lst []) hl
      have nkd : l ≠ d := (ne_of_none hdA hl).symm
      have nkl : l ≠ ld := (ne_of_none hlA hl).symm
      have kl : kvs.length ≤ 100000 := by
        have h1 := paired_len pe4
        have h2 := bi.len PG
        omega
      refine ⟨_, rfl, _, rfl, d, _, rfl, DPut.t (sl _ _ hdA) (sl _ _ hxaA) (lsz kl), ?_⟩
      rw [putK_new _ nval]
      have y5 : SameY d ld H4 (upd (upd HA l (.lst [])) d (.dT (kvs ++ [(nd3 s1 s s2, V.ref l)]))) := (SameY.then yA sl).putD
      have hd5 : (upd (upd HA l (.lst [])) d (.dT (kvs ++ [(nd3 s1 s s2, V.ref l)]))) d = some (.dT (kvs ++ [(nd3 s1 s s2, V.ref l)])) := upd_same
      have hl5 : (upd (upd HA l (.lst [])) d (.dT (kvs ++ [(nd3 s1 s s2, V.ref l)]))) ld = some (.lst lv) := by rw [upd_ne ndl.symm]; exact sl _ _ hlA
      have he5 : (upd (upd HA l (.lst [])) d (.dT (kvs ++ [(nd3 s1 s s2, V.ref l)]))) l = some (.lst []) := by rw [upd_ne nkd]; exact upd_same
      generalize upd (upd HA l (.lst [])) d (.dT (kvs ++ [(nd3 s1 s s2, V.ref l)])) = H5 at y5 hd5 hl5 he5 ⊢
      clear yA hdA hlA hxaA sl hl sA
      have S5 : Same H0 H5 := SameY.same S4 y5 hd nld
      have SH5 := sb.trans S5
      obtain ⟨_, _, hB5, _⟩ := _root_.id (mB.mono SH5)
      refine ⟨_, rfl, b, _, _, rfl, hB5, rfl, b, r2, rfl, mB.mono SH5, _, rfl, ?_⟩
      have key5 : valV (kvs ++ [(nd3 s1 s s2, V.ref l)]) (nd3 s1 s s2) = some (V.ref l) := by
        rw [← putK_new _ nval, valV_put, if_pos rfl]
      have ep1 : prio (rD r1) (rG r1) s1 [oL t s] = (rG r1 s1 (oL t s) : Int) := by
        show (if [oL t s] = [] then (-1 : Int) else ((max (rG r1 s1 (oL t s)) 0 : Nat) : Int)) = _
        rw [if_neg (List.cons_ne_nil _ _), Nat.max_zero]
      have add : ∀ (c : Nat) (pv2 : Int) (rt : Nat) (H10 : Hp) (vs : List V) (es : List Edge) (ta ka pe : Addr), (pdO r1 r2 t wt).edge s1 s s2 c = ((S [c], (rG r1 s1 (oL t s) : Int), pv2), nd3 (rD r1 s1 (oL t s)) (oD t s c) rt) → SameY d ld H4 H10 → H10 d = some (.dT (kvs ++ [(nd3 s1 s s2, V.ref l)])) → H10 ld = some (.lst lv) → H10 l = some (.lst vs) → Paired (EdgeV H10) vs es →
          H10 ta = some (.tup [V.str (S [c]), V.int (rG r1 s1 (oL t s)), V.int pv2]) → H10 ka = some (.tup [V.int (rD r1 s1 (oL t s)), V.int (oD t s c), V.int rt]) → H10 pe = some (.tup [V.ref ta, V.ref ka]) →
          SameY d ld H4 (upd H10 l (.lst (vs ++ [V.ref pe]))) ∧ (upd H10 l (.lst (vs ++ [V.ref pe]))) d = some (.dT (kvs ++ [(nd3 s1 s s2, V.ref l)])) ∧ (upd H10 l (.lst (vs ++ [V.ref pe]))) ld = some (.lst lv) ∧
          ∃ ws, (upd H10 l (.lst (vs ++ [V.ref pe]))) l = some (.lst ws) ∧ Paired (EdgeV (upd H10 l (.lst (vs ++ [V.ref pe])))) ws (es ++ [(pdO r1 r2 t wt).edge s1 s s2 c]) := by
        intro c pv2 rt H10 vs es ta ka pe ee y10 hd10 hl10 hv10 pv10 hta hka hpe
        have tl := (TSame.refl H10).mut (o := .lst (vs ++ [V.ref pe])) hv10 fun _ e => nomatch e
        refine ⟨y10.mut hlH4, by rw [upd_ne nkd.symm]; exact hd10, by rw [upd_ne nkl.symm]; exact hl10, vs ++ [V.ref pe], upd_same, ?_⟩
        rw [ee]
        exact paired_app (paired_imp pv10 fun _ _ r => r.mono tl) (.cons ⟨pe, ta, ka, rfl, tl _ _ hpe, tl _ _ hta, tl _ _ hka⟩ .nil)
      refine for_it walk_str (fun i σ H' => ∃ r13 r14 r15, σ = [some (V.ref a), some (V.ref b), some (V.ref m), some (V.bl wt), some (V.ref bq), some (V.ref d), some (V.ref ld), some (V.ref xa), some (V.int s1), some (V.int s), some (V.int s2), some (V.int (rD r1 s1 (oL t s))), some (V.int (rG r1 s1 (oL t s))), r13, r14, r15, none, none] ∧ SameY d ld H4 H' ∧ H' d = some (.dT (kvs ++ [(nd3 s1 s s2, V.ref l)])) ∧ H' ld = some (.lst lv) ∧
        ∃ vs, H' l = some (.lst vs) ∧ Paired (EdgeV H') vs ((r2.ls.take i).map ((pdO r1 r2 t wt).edge s1 s s2))) ⟨_, _, _, rfl, y5, hd5, hl5, [], he5, .nil⟩ (fun _ _ _ _ _ => trivial) ?_ ?_
      · rintro i x σ H6 H7 hi ⟨r13, r14, r15, rfl, y6, hd6, hl6, vs, hv6, pv6⟩ ⟨rfl, c, hc, rfl⟩
        have hc' : r2.ls[i]? = some c := by
          have : r2.ls.toArray[i]? = some c := hc
          rw [List.getElem?_toArray] at this
          exact this
        have cm := List.mem_of_getElem? hc'
        have c45 := o2.al.n45 cm
        have SH6 := sb.trans (SameY.same S4 y6 hd nld)
        have mB6 := mB.mono SH6
        obtain ⟨_, _, hB6, _⟩ := _root_.id mB6
        refine ⟨_, rfl, b, _, _, rfl, hB6, rfl, _, rfl, _, rfl, b, r2, s2, c, rfl, mB6, o2, b2, cm, fun q1 H8 s8 hq1 => ?_⟩
        refine ⟨q1, _, rfl, SqT.of hq1, rfl, _, _, rfl, _, _, rfl, rfl, ?_⟩
        have y8 := y6.then s8
        have hxa8 := (y8.ts hd4 hl4) _ _ hxa4
        have SH8 := SH6.trans s8
        have hv8 := s8 _ _ hv6
        refine ⟨_, rfl, _, rfl, d, _, rfl, .inr ⟨_, _, xa, .inl (s8 _ _ hd6), rfl, hxa8, key5.symm⟩, .inl ⟨rfl, _, SqL.of hv8⟩, ?_⟩
        refine ⟨_, rfl, _, rfl, _, rfl, (by show 3 ≤ sizeLine; decide), fun ta hta => ?_⟩
        have st1 := same_new (o := .tup [V.str (S [c]), V.int (rG r1 s1 (oL t s)), V.int (rG r2 s2 c)]) hta
        have hta1 : (upd H8 ta (.tup [V.str (S [c]), V.int (rG r1 s1 (oL t s)), V.int (rG r2 s2 c)])) ta = some (.tup [V.str (S [c]), V.int (rG r1 s1 (oL t s)), V.int (rG r2 s2 c)]) := upd_same
        have mM9 := mM.mono (SH8.trans st1)
        obtain ⟨_, _, hM9, _⟩ := _root_.id mM9
        refine ⟨_, rfl, _, rfl, m, _, _, rfl, hM9, rfl, _, rfl, _, rfl, m, t, s, c, rfl, mM9, ot, bt, List.mem_cons_of_mem _ (by rw [e2]; exact cm), fun HB sB => ⟨_, rfl, (by show 3 ≤ sizeLine; decide), fun ka hka => ⟨(by show 2 ≤ sizeLine; decide), fun pe hpe => ?_⟩⟩⟩
        have st2 := same_new (o := .tup [V.int (rD r1 s1 (oL t s)), V.int (oD t s c), V.int (rD r2 s2 c)]) hka
        have st3 := same_new (o := .tup [V.ref ta, V.ref ka]) hpe
        have sT := st1.trans (sB.trans (st2.trans st3))
        have lp := paired_len pv6
        rw [List.length_map] at lp
        have ll := List.length_take_le' i r2.ls
        have al3 := o2.al.le
        have ee : (pdO r1 r2 t wt).edge s1 s s2 c = ((S [c], (rG r1 s1 (oL t s) : Int), (rG r2 s2 c : Int)), nd3 (rD r1 s1 (oL t s)) (oD t s c) (rD r2 s2 c)) := by
          show ((S [c], prio (rD r1) (rG r1) s1 [oL t s], prio (rD r2) (rG r2) s2 (if c = 45 then [] else [c])), nd3 (rD r1 s1 (oL t s)) (oD t s c) (runL (rD r2) s2 (if c = 45 then [] else [c]))) = _
          rw [ep1, if_neg c45]
          show ((S [c], _, ((max (rG r2 s2 c) 0 : Nat) : Int)), _) = _
          rw [Nat.max_zero]
          rfl
        refine ⟨l, vs, V.ref pe, rfl, rfl, sT _ _ hv8, lsz (by omega), ?_⟩
        obtain ⟨z1, z2, z3, z4⟩ := add c (rG r2 s2 c : Int) (rD r2 s2 c) _ vs _ ta ka pe ee (y8.then sT) (sT _ _ (s8 _ _ hd6)) (sT _ _ (s8 _ _ hl6)) (sT _ _ hv8) (paired_imp pv6 fun _ _ r => r.mono (.of (s8.trans sT))) ((sB.trans (st2.trans st3)) _ _ hta1) (st3 _ _ upd_same) upd_same
        refine ⟨_, _, _, rfl, z1, z2, z3, ?_⟩
        rw [List.take_add_one, hc', Option.toList_some, List.map_append, List.map_singleton]
        exact z4
      · rintro σ H6 ⟨r13, r14, r15, rfl, y6, hd6, hl6, vs, hv6, pv6⟩
        have el : (S r2.ls).cps.size = r2.ls.length := by
          show r2.ls.toArray.size = _
          rw [List.size_toArray]
        rw [el, List.take_length] at pv6
        refine ⟨fun σ' H' => σ' = [some (V.ref a), some (V.ref b), some (V.ref m), some (V.bl wt), some (V.ref bq), some (V.ref d), some (V.ref ld), some (V.ref xa), some (V.int s1), some (V.int s), some (V.int s2), some (V.int (rD r1 s1 (oL t s))), some (V.int (rG r1 s1 (oL t s))), r13, r14, r15, none, none] ∧ SameY d ld H4 H' ∧ H' d = some (.dT (kvs ++ [(nd3 s1 s s2, V.ref l)])) ∧ H' ld = some (.lst lv) ∧
          ∃ vs, H' l = some (.lst vs) ∧ Paired (EdgeV H') vs ((pdO r1 r2 t wt).succ (nd3 s1 s s2)), ?_, ?_⟩
        · refine ⟨_, rfl, wt, rfl, ?_⟩
          cases wt with
          | false =>
            refine iteF ⟨rfl, y6, hd6, hl6, vs, hv6, ?_⟩
            show Paired (EdgeV H6) vs ((r2.ls ++ []).map ((pdO r1 r2 t false).edge s1 s s2))
            rw [List.append_nil]
            exact pv6
          | true =>
            refine iteT ?_
            have hxa6 := (y6.ts hd4 hl4) _ _ hxa4
            have SH6 := sb.trans (SameY.same S4 y6 hd nld)
            refine ⟨_, rfl, _, rfl, d, _, rfl, .inr ⟨_, _, xa, .inl hd6, rfl, hxa6, key5.symm⟩, .inl ⟨rfl, _, SqL.of hv6⟩, ?_⟩
            refine ⟨_, rfl, (by show 3 ≤ sizeLine; decide), fun ta hta => ?_⟩
            have st1 := same_new (o := .tup [V.str "-", V.int (rG r1 s1 (oL t s)), V.int (-1)]) hta
            have hta1 : (upd H6 ta (.tup [V.str "-", V.int (rG r1 s1 (oL t s)), V.int (-1)])) ta = some (.tup [V.str (S [45]), V.int (rG r1 s1 (oL t s)), V.int (-1)]) := upd_same
            have mM9 := mM.mono (SH6.trans st1)
            obtain ⟨_, _, hM9, _⟩ := _root_.id mM9
            refine ⟨_, rfl, _, rfl, m, _, _, rfl, hM9, rfl, _, rfl, m, t, s, 45, rfl, mM9, ot, bt, List.mem_cons_self, fun HB sB => ⟨_, rfl, (by show 3 ≤ sizeLine; decide), fun ka hka => ⟨(by show 2 ≤ sizeLine; decide), fun pe hpe => ?_⟩⟩⟩
            have st2 := same_new (o := .tup [V.int (rD r1 s1 (oL t s)), V.int (oD t s 45), V.int s2]) hka
            have st3 := same_new (o := .tup [V.ref ta, V.ref ka]) hpe
            have sT := st1.trans (sB.trans (st2.trans st3))
            have lp := paired_len pv6
            rw [List.length_map] at lp
            have al3 := o2.al.le
            have ee : (pdO r1 r2 t true).edge s1 s s2 45 = ((S [45], (rG r1 s1 (oL t s) : Int), (-1 : Int)), nd3 (rD r1 s1 (oL t s)) (oD t s 45) s2) := by
              show ((S [45], prio (rD r1) (rG r1) s1 [oL t s], _), _) = _
              rw [ep1]
              rfl
            refine ⟨l, vs, V.ref pe, rfl, rfl, sT _ _ hv6, lsz (by omega), ?_⟩
            obtain ⟨z1, z2, z3, z4⟩ := add 45 (-1) s2 _ vs _ ta ka pe ee (y6.then sT) (sT _ _ hd6) (sT _ _ hl6) (sT _ _ hv6) (paired_imp pv6 fun _ _ r => r.mono (.of sT)) ((sB.trans (st2.trans st3)) _ _ hta1) (st3 _ _ upd_same) upd_same
            refine ⟨rfl, z1, z2, z3, ?_⟩
            have es : (pdO r1 r2 t true).succ (nd3 s1 s s2) = r2.ls.map ((pdO r1 r2 t true).edge s1 s s2) ++ [(pdO r1 r2 t true).edge s1 s s2 45] := by
              show (r2.ls ++ [45]).map ((pdO r1 r2 t true).edge s1 s s2) = _
              rw [List.map_append]
              rfl
            rw [es]
            exact z4
        rintro σ' H7 ⟨rfl, y7, hd7, hl7, vs, hv7, pv7⟩
        clear y6 hd6 hl6 hv6 pv6
        have t6 := y7.ts hd4 hl4
        have hxa6 := t6 _ _ hxa4
        have sucl := PG.deg (nd3 s1 s s2)
        have g36 := bi.len' PG hin
        refine ⟨_, rfl, .inl ⟨rfl, _, SqL.of hl7⟩, ?_⟩
        refine lc_targets (l := l) (es := (pdO r1 r2 t wt).succ (nd3 s1 s s2)) (fun R hR => ⟨_, rfl, _, rfl, d, _, rfl, .inr ⟨_, _, xa, .inl hd7, rfl, hxa6, key5.symm⟩, hR⟩) hv7 pv7 (by omega) (fun _ _ => rfl) (fun _ _ => rfl) (fun D H8 ws s8 nD hD pD => ?_)
        have lD := paired_len pD
        rw [List.length_map] at lD
        have hl8 := s8 _ _ hl7
        have hd8 := s8 _ _ hd7
        refine ⟨ld, D, lv, ws, rfl, rfl, hl8, hD, Nat.le_of_lt (lsz (by omega)), ?_⟩
        have y9 : SameY d ld H4 (upd H8 ld (.lst (lv ++ ws))) := (y7.then s8).putL
        have t9 := y9.ts hd4 hl4
        have t89 : TSame H8 (upd H8 ld (.lst (lv ++ ws))) := (TSame.refl _).mut hl8 fun _ e => nomatch e
        have t79 := (TSame.of s8).trans t89
        refine ⟨5 * (36 - (g ++ [(nd3 s1 s s2, (pdO r1 r2 t wt).succ (nd3 s1 s s2))]).length) + (ln ++ ((pdO r1 r2 t wt).succ (nd3 s1 s s2)).map (·.2)).length, ?_, _, _, _, _, _, _, _, _, _, kvs ++ [(nd3 s1 s s2, V.ref l)], g ++ [(nd3 s1 s s2, (pdO r1 r2 t wt).succ (nd3 s1 s s2))], lv ++ ws, ln ++ ((pdO r1 r2 t wt).succ (nd3 s1 s s2)).map (·.2), rfl, SameY.same S4 y9 hd nld, by rw [upd_ne ndl]; exact hd8,
          paired_app (paired_imp pe4 fun _ _ r => EntL.mono y9 hd4 hl4 r) (.cons ⟨rfl, l, vs, rfl, nkl, by rw [upd_ne nkl]; exact s8 _ _ hv7, paired_imp pv7 fun _ _ r => r.mono t79⟩ .nil), upd_same, paired_app (paired_imp pl4 fun _ _ r => r.mono t9) (paired_imp pD fun _ _ r => r.mono t89), bi.add PG hin, rfl, ?_⟩
        · simp only [List.length_append, List.length_map, List.length_singleton]
          omega
        · simp only [List.length_append, List.length_map, List.length_singleton]
          omega
end
end K42
set_option Elab.async false
set_option linter.all false
set_option maxRecDepth 100000
set_option maxHeartbeats 4000000
namespace K42
open PySem PySem.Spec PyProof.Rows L2

open SX
theorem mx2_low {ts : List Tag} (h : ∀ t ∈ ts, t.2.2 ≤ -1) : mx2 ts = -1 := by
  induction ts with
  | nil => rfl
  | cons t ts ih =>
    show max t.2.2 (mx2 ts) = -1
    rw [ih fun t' h' => h t' (List.mem_cons_of_mem _ h')]
    have := h t List.mem_cons_self
    omega
structure Lasso (p : Pd) (i1 i i2 : Nat) (P C : Wd) (x y : Int) : Prop where
  ne : C ≠ []
  mem : ∀ x ∈ P ++ C, x ∈ p.L
  l0 : runL p.D (runL p.D i P) C = runL p.D i P
  l1 : runL p.D1 (runL p.D1 i1 (outL p.D p.f1 i P)) (outL p.D p.f1 (runL p.D i P) C) = runL p.D1 i1 (outL p.D p.f1 i P)
  l2 : runL p.D2 (runL p.D2 i2 (outL p.D p.f2 i P)) (outL p.D p.f2 (runL p.D i P) C) = runL p.D2 i2 (outL p.D p.f2 i P)
  m1 : prio p.D1 p.g1 (runL p.D1 i1 (outL p.D p.f1 i P)) (outL p.D p.f1 (runL p.D i P) C) = x
  m2 : prio p.D2 p.g2 (runL p.D2 i2 (outL p.D p.f2 i P)) (outL p.D p.f2 (runL p.D i P) C) = y
theorem lasso_of {p : Pd} {g : Gph} {i1 i i2 : Nat} {u : Nd} {ps ts : List Tag} {r : Wd × Wd} (G : p.Gr g) (R : GR g (nd3 i1 i i2)) (F : Found g (nd3 i1 i i2) u ps ts r) : Lasso p i1 i i2 (letL ps) (letL ts) (mx1 ts) (mx2 ts) := by
  obtain ⟨a1, a2, a3, a4⟩ := walk_reads G R.ok F.begin rfl R.start
  have uk : u ∈ gkeys g := by
    have clo : ∀ {a c : Nd} {qs : List Tag}, Wk g a qs c → a ∈ gkeys g → c ∈ gkeys g := by
      intro a c qs w
      induction w with
      | nil => exact fun h => h
      | cons he _ ih => exact fun h => ih (R.ok.clo _ h _ he)
    exact clo F.begin R.start
  obtain ⟨b1, b2, b3, b4⟩ := walk_reads G R.ok F.round a1 uk
  obtain ⟨c1, c2, c3⟩ := nd3_inj (b1.symm.trans a1)
  have l1 : ∀ t ∈ ts, (let1 t).length = 1 := fun t ht => let ⟨q, k, h⟩ := wk_tags F.round t ht; R.one q (t, k) h
  refine ⟨fun e => ?_, fun x hx => ?_, c2, c1, c3, b3.symm, b4.symm⟩
  · have := letL_len l1
    rw [e] at this
    exact F.ne (List.length_eq_zero_iff.mp this.symm)
  · rcases List.mem_append.mp hx with q | q
    · exact a2 x q
    · exact b2 x q
def sp_check_opponent (K : PySem.W.Frag) : Sp := fun vs H Q _ => ∃ (a b m : Addr) (w : Bool) (r1 r2 : Raw) (t : Op), vs = [.ref a, .ref b, .ref m, .bl w] ∧ MacV K H a r1 ∧ MacV K H b r2 ∧ OpV K H m t ∧ RawOk r1 ∧ RawOk r2 ∧ OpOk t ∧ t.src = r1.ls ∧ t.tgt = r2.ls ∧
  (∀ H', Same H H' → Q .non H') ∧ ∀ q b' r H' P C (x y : Nat), Same H H' → H' q = some (.tup [.str "verdict", .ref b']) → RowAt H' b' r → NF r → Eqv (P, C) r → r.1.length ≤ 60 → r.2.length ≤ 300 → Lasso (pdO r1 r2 t w) r1.st t.st r2.st P C x y → ((x : Int) + y) % 2 = 0 → Q (.ref q) H'
section
variable {P : Program} {w : World} {K : PySem.W.Frag} {mg : Str → Option Value} {base : Heap}
theorem sc_check_opponent : FnScope ["one", "other", "opponent", "waits", "begin", "edges"] ["one", "other", "opponent", "waits"] (defScope s_g_check_opponent) := ⟨rfl, rfl, rfl, by decide +kernel, rfl, by decide +kernel, by decide +kernel⟩
theorem ok_check_opponent (T : Tp K mg) (G_need_letters : GOk P w K mg base "need_letters" 2 ["one", "other", "machine"] (sp_need_letters K)) (G_opponent_edges : GOk P w K mg base "opponent_edges" 2 ["one", "other", "opponent", "waits"] (sp_opponent_edges K)) (G_parity_fault : GOk P w K mg base "parity_fault" 5 ["begin", "edges", "parity"] sp_parity_fault) : GKOk P w K mg base "check_opponent" 6 3 ["waits"] ["one", "other", "opponent", "waits"] (sp_check_opponent K) := by
  refine gkok_of (st := s_g_check_opponent) T.fd_g_check_opponent T.g_check_opponent sc_check_opponent (fun _ _ _ _ _ _ us ws h1 h2 => match us, ws, h1, h2 with | [_, _, _], [_], _, _ => rfl) (fun vs H Q E h => ?_) (fun cdv A outer s H vs Q E hr h => ?_)
  · obtain ⟨a, b, m, w, r1, r2, t, rfl, _⟩ := h
    rfl
  · obtain ⟨a, b, m, wt, r1, r2, t, rfl, mA, mB, mM, o1, o2, ot, e1, e2, kn, kw⟩ := h
    have hu := hu_of hr
    refine ⟨_, (pss_cons (ps_expr (pe_g G_need_letters (hr.mono (by decide)) (pa_cons (pv 0) (pa_cons (pv 1) (pa_cons (pv 2) pa_nil)))))
      (pss_cons (ps_asg (pe_g G_opponent_edges (hr.mono (by decide)) (pa_cons (pv 0) (pa_cons (pv 1) (pa_cons (pv 2) (pa_cons (pv 3) pa_nil))))) (pg_tupK K (n := 2) (by rfl) (pgs_cons (pg_name (i := 4) sc_check_opponent.nd rfl (by first | exact Or.inl rfl | exact Or.inr rfl)) (pgs_cons (pg_name (i := 5) sc_check_opponent.nd rfl (by first | exact Or.inl rfl | exact Or.inr rfl)) pgs_nil))))
      (pss_one (ps_ret (pe_g G_parity_fault (hr.mono (by decide)) (pa_cons (pv 4) (pa_cons (pv 5) (pa_cons pe_int pa_nil)))))))), ?_⟩
    refine ⟨_, rfl, _, rfl, _, rfl, a, b, m, r1, r2, rfl, mA, mB, o1.al.ok, o2.al.ok, .inr ⟨t, mM, e1, e2⟩, fun H1 s1 => ?_⟩
    refine ⟨_, rfl, _, rfl, _, rfl, _, rfl, a, b, m, wt, r1, r2, t, rfl, mA.mono s1, mB.mono s1, mM.mono s1, o1, o2, ot, e1, e2, fun q bq d H2 kvs g s2 hq hbq GA R G => ?_⟩
    refine ⟨q, _, rfl, SqT.of hq, rfl, _, _, rfl, _, _, rfl, rfl, ?_⟩
    refine ⟨_, rfl, _, rfl, bq, d, 0, kvs, g, _, rfl, GA, R, hbq, fun H3 s3 => kn H3 ((s1.trans s2).trans s3), fun q3 b' r H3 u ps ts x y s3 hq3 hr F all ex ey ev => ?_⟩
    have ls := lasso_of G R F
    rw [mx1_of (x := (x : Int)) (by omega) (fun t ht => (all t ht).1) ex, mx2_of (x := (y : Int)) (by omega) (fun t ht => (all t ht).2) ey] at ls
    exact kw q3 b' r H3 _ _ x y ((s1.trans s2).trans s3) hq3 hr F.nf F.eqv F.l1 F.l2 ls ev
def sp_check_translator (K : PySem.W.Frag) : Sp := fun vs H Q _ => ∃ (a b m : Addr) (op : Bool) (r1 r2 : Raw) (t : Tr), vs = [.ref a, .ref b, .ref m, .bl op] ∧ MacV K H a r1 ∧ MacV K H b r2 ∧ TrV K H m t ∧ RawOk r1 ∧ RawOk r2 ∧ TrOk t ∧ t.src = r1.ls ∧ t.tgt = r2.ls ∧
  (∀ H', Same H H' → Q .non H') ∧ (∀ q b' r H' P C x, Same H H' → H' q = some (.tup [.str "waits", .ref b']) → RowAt H' b' r → NF r → Eqv (P, C) r → r.1.length ≤ 60 → r.2.length ≤ 300 → Lasso (pdT r1 r2 t) r1.st t.st r2.st P C x (-1) → Q (.ref q) H') ∧
  ∀ q b' r H' P C (x y : Nat), Same H H' → H' q = some (.tup [.str "verdict", .ref b']) → RowAt H' b' r → NF r → Eqv (P, C) r → r.1.length ≤ 60 → r.2.length ≤ 300 → Lasso (pdT r1 r2 t) r1.st t.st r2.st P C x y → ((x : Int) + y) % 2 = 1 - (if op = true then 1 else 0) → Q (.ref q) H'
theorem sc_check_translator : FnScope ["one", "other", "translator", "opposite", "begin", "edges", "walk"] ["one", "other", "translator", "opposite"] (defScope s_g_check_translator) := ⟨rfl, rfl, rfl, by decide +kernel, rfl, by decide +kernel, by decide +kernel⟩
theorem ok_check_translator (T : Tp K mg) (G_need_letters : GOk P w K mg base "need_letters" 2 ["one", "other", "machine"] (sp_need_letters K)) (G_translator_edges : GOk P w K mg base "translator_edges" 2 ["one", "other", "translator"] (sp_translator_edges K)) (G_cycle_through : GOk P w K mg base "cycle_through" 3 ["edges", "tests"] sp_cycle_through) (G_bounded : GOk P w K mg base "bounded" 1 ["edges", "first", "second"] sp_bounded) (G_row_along : GOk P w K mg base "row_along" 3 ["edges", "begin", "walk"] sp_row_along) (G_parity_fault : GOk P w K mg base "parity_fault" 5 ["begin", "edges", "parity"] sp_parity_fault) : GKOk P w K mg base "check_translator" 6 3 ["opposite"] ["one", "other", "translator", "opposite"] (sp_check_translator K) := by
  refine gkok_of (st := s_g_check_translator) T.fd_g_check_translator T.g_check_translator sc_check_translator (fun _ _ _ _ _ _ us ws h1 h2 => match us, ws, h1, h2 with | [_, _, _], [_], _, _ => rfl) (fun vs H Q E h => ?_) (fun cdv A outer s H vs Q E hr h => ?_)
  · obtain ⟨a, b, m, w, r1, r2, t, rfl, _⟩ := h
    rfl
  · obtain ⟨a, b, m, op, r1, r2, t, rfl, mA, mB, mM, o1, o2, ot, e1, e2, kn, kwt, kv⟩ := h
    have hu := hu_of hr
    refine ⟨_, (pss_cons (ps_expr (pe_g G_need_letters (hr.mono (by decide)) (pa_cons (pv 0) (pa_cons (pv 1) (pa_cons (pv 2) pa_nil)))))
      (pss_cons (ps_asg (pe_g G_translator_edges (hr.mono (by decide)) (pa_cons (pv 0) (pa_cons (pv 1) (pa_cons (pv 2) pa_nil)))) (pg_tupK K (n := 2) (by rfl) (pgs_cons (pg_name (i := 4) sc_check_translator.nd rfl (by first | exact Or.inl rfl | exact Or.inr rfl)) (pgs_cons (pg_name (i := 5) sc_check_translator.nd rfl (by first | exact Or.inl rfl | exact Or.inr rfl)) pgs_nil))))
      (pss_cons (ps_set (i := 6) sc_check_translator.nd rfl (by first | exact Or.inl rfl | exact Or.inr rfl) (pe_g G_cycle_through (hr.mono (by decide)) (pa_cons (pe_g G_bounded (hr.mono (by decide)) (pa_cons (pv 5) (pa_cons (pe_gi T.MAX_PRIORITY) (pa_cons (pe_gi T.NONE) pa_nil)))) (pa_cons (pe_lst (pa_cons pe_non pa_nil)) pa_nil))))
      (pss_cons (ps_if (pt_cmpR op_notN (pv 6) pe_non (nomark _)) (pss_one (ps_ret (pe_tup (pa_cons pe_str (pa_cons (pe_g G_row_along (hr.mono (by decide)) (pa_cons (pv 5) (pa_cons (pv 4) (pa_cons (pv 6) pa_nil)))) pa_nil))))) pss_nil)
      (pss_one (ps_ret (pe_g G_parity_fault (hr.mono (by decide)) (pa_cons (pv 4) (pa_cons (pv 5) (pa_cons (pe_op op_sub pe_int (pe_callTy call_int1 (by rfl) T.b_int (by decide +kernel) (pa_cons (pv 3) pa_nil))) pa_nil)))))))))), ?_⟩
    refine ⟨_, rfl, _, rfl, _, rfl, a, b, m, r1, r2, rfl, mA, mB, o1.al.ok, o2.al.ok, .inl ⟨t, mM, e1, e2⟩, fun H1 s1 => ?_⟩
    refine ⟨_, rfl, _, rfl, _, rfl, a, b, m, r1, r2, t, rfl, mA.mono s1, mB.mono s1, mM.mono s1, o1, o2, ot, e1, e2, fun q bq d H2 kvs g s2 hq hbq GA R G => ?_⟩
    refine ⟨q, _, rfl, SqT.of hq, rfl, _, _, rfl, _, _, rfl, rfl, ?_⟩
    have s12 := s1.trans s2
    refine ⟨_, rfl, d, 3, -1, kvs, g, rfl, GA, R.ok, fun pb H3 kvs' s3 npb GB => ?_⟩
    refine ⟨(by show 1 ≤ sizeLine; decide), fun tl htl => ?_⟩
    have s4 := same_new (o := .lst [V.non]) htl
    have s34 := s3.trans s4
    have GA4 := GA.mono s34
    refine ⟨pb, tl, kvs', boundG g 3 (-1), [V.non], [none], rfl, GB.mono s4, bound_ok 3 (-1) R.ok, upd_same, .cons rfl .nil, by simp, by simp, fun o ho => ?_, fun H5 s5 => ?_, fun v H5 u ts s5 wv wk _ tne tl3 uk => ?_⟩
    · have e : o = none := by simpa using ho
      subst e
      exact trivial
    · refine ⟨_, rfl, rfl, _, rfl, ?_⟩
      refine iteF ?_
      have s345 := s34.trans s5
      refine ⟨_, rfl, _, rfl, _, rfl, .inr ⟨op, rfl, _, _, rfl, rfl, ?_⟩⟩
      refine ⟨bq, d, _, kvs, g, _, rfl, GA.mono s345, R, s345 _ _ hbq, fun H6 s6 => kn H6 (s12.trans (s345.trans s6)), fun q3 b' r H6 u ps ts x y s6 hq3 hr F all ex ey ev => ?_⟩
      have ls := lasso_of G R F
      rw [mx1_of (x := (x : Int)) (by omega) (fun t ht => (all t ht).1) ex, mx2_of (x := (y : Int)) (by omega) (fun t ht => (all t ht).2) ey] at ls
      exact kv q3 b' r H6 _ _ x y (s12.trans (s345.trans s6)) hq3 hr F.nf F.eqv F.l1 F.l2 ls ev
    · obtain ⟨w, na, wl, tvs, rfl, hw, hna, hwl, pts⟩ := _root_.id wv
      refine ⟨_, rfl, rfl, _, rfl, ?_⟩
      refine iteT ?_
      obtain ⟨w1, w2⟩ := bound_wk wk
      rw [bound_keys] at uk
      have s345 := s34.trans s5
      refine ⟨_, rfl, _, rfl, _, rfl, d, bq, w, kvs, g, _, u, ts, rfl, GA.mono s345, R.ok, s345 _ _ hbq, R.start, wv, R.reach u uk, tne, tl3, fun t ht => ?_, R.one, fun b' r' H6 ps s6 hr wk0 nf ev q1 q2 => ⟨(by show 2 ≤ sizeLine; decide), fun q hq => ?_⟩⟩
      · obtain ⟨p, k, h⟩ := wk_tags w1 t ht
        exact R.one p (t, k) h
      · have sq := same_new (o := .tup [V.str "waits", V.ref b']) hq
        have F : Found g (nd3 r1.st t.st r2.st) u ps ts r' := ⟨wk0, w1, tne, nf, ev, q1, q2⟩
        have ls := lasso_of G R F
        rw [mx2_low fun t ht => (w2 t ht).2] at ls
        exact kwt q b' r' _ _ _ _ (s12.trans (s345.trans (s6.trans sq))) upd_same (sq _ _ hr) nf ev q1 q2 ls
end
end K42
set_option Elab.async false
set_option linter.all false
set_option maxRecDepth 100000
set_option maxHeartbeats 4000000
namespace K42
open PySem PySem.Spec PyProof.Rows L2

open SX
def TldV (H : Hp) (a : Addr) (t : Tr) : Prop := ∃ l, H a = some (.tup [.str (S t.src), .str (S t.tgt), .ref l, .int t.st]) ∧ TabP AnV H l t.tb
theorem TldV.mono {H H' : Hp} {a : Addr} {t : Tr} (s : Same H H') (h : TldV H a t) : TldV H' a t := let ⟨l, h1, h2⟩ := h; ⟨l, s _ _ h1, h2.mono (fun t q => q.mono t) s⟩
theorem szS {l : Wd} (h : l.length ≤ 100000) : (S l).length ≤ sizeLine := by
  rw [S_len, sizeLine_eq]
  omega
theorem str_at {l : Wd} {i c : Nat} (h : (S l).cps[i]? = some c) : l[i]? = some c := by
  have : l.toArray[i]? = some c := h
  rw [List.getElem?_toArray] at this
  exact this
theorem str_size (l : Wd) : (S l).cps.size = l.length := by
  show l.toArray.size = _
  rw [List.size_toArray]
theorem take_one {l : Wd} {i c : Nat} (h : l[i]? = some c) : l.take (i + 1) = l.take i ++ [c] := by
  rw [List.take_add_one, h]
  rfl
theorem run_lt {D : Nat → Nat → Nat} {n : Nat} : ∀ (l : Wd) {s : Nat}, (∀ s c, s < n → c ∈ l → D s c < n) → s < n → runL D s l < n
  | [], _, _, hs => hs
  | x :: l, s, h, hs => run_lt l (fun s c hs hc => h s c hs (List.mem_cons_of_mem _ hc)) (h s x hs List.mem_cons_self)
theorem out_len {D : Nat → Nat → Nat} {f : Nat → Nat → Wd} {n : Nat} : ∀ (l : Wd) {s : Nat}, (∀ s c, s < n → c ∈ l → D s c < n) → (∀ s c, s < n → c ∈ l → (f s c).length ≤ 1) → s < n → (outL D f s l).length ≤ l.length
  | [], _, _, _, _ => Nat.le_refl _
  | x :: l, s, h, h2, hs => by
    show (f s x ++ outL D f (D s x) l).length ≤ l.length + 1
    rw [List.length_append]
    have := h2 s x hs List.mem_cons_self
    have := out_len l (fun s c hs hc => h s c hs (List.mem_cons_of_mem _ hc)) (fun s c hs hc => h2 s c hs (List.mem_cons_of_mem _ hc)) (h s x hs List.mem_cons_self)
    omega
theorem TrOk.d {t : Tr} (ok : TrOk t) : ∀ s c, s < t.tb.length → c ∈ t.src → tD t s c < t.tb.length := fun s c hs hc => let ⟨_, _, _, h, _⟩ := ok.at hs hc; h
theorem TrOk.f {t : Tr} (ok : TrOk t) : ∀ s c, s < t.tb.length → c ∈ t.src → (tO t s c).length ≤ 1 := fun s c hs hc => by
  obtain ⟨_, _, _, _, h⟩ := ok.at hs hc
  rcases h with q | ⟨c', _, q⟩
  · rw [q]
    exact Nat.zero_le _
  · rw [q]
    exact Nat.le_refl _
def sp_law_output : Sp := fun vs H Q _ => ∃ (a : Addr) (t : Tr) (s : Nat) (l : Wd), vs = [.ref a, .int s, .str (S l)] ∧ TldV H a t ∧ TrOk t ∧ s < t.tb.length ∧ (∀ x ∈ l, x ∈ t.src) ∧ l.length ≤ 20000 ∧
  ∀ q H', Same H H' → H' q = some (.tup [.int (runL (tD t) s l : Nat), .str (S (outL (tD t) (tO t) s l))]) → Q (.ref q) H'
section
variable {P : Program} {w : World} {K : PySem.W.Frag} {mg : Str → Option Value} {base : Heap}
theorem sc_law_output : FnScope ["_law_told_here", "_law_state", "_law_text", "_law_found", "_law_letter", "_law_output_here"] ["_law_told_here", "_law_state", "_law_text"] (defScope s_g_law_output) := ⟨rfl, rfl, rfl, by decide +kernel, rfl, by decide +kernel, by decide +kernel⟩
theorem ok_law_output (T : Tp K mg)  : GOk P w K mg base "_law_output" 1 ["_law_told_here", "_law_state", "_law_text"] sp_law_output := by
  refine gok_of (st := s_g_law_output) T.fd_g_law_output T.g_law_output sc_law_output (fun _ _ _ _ _ _ us hl => match us, hl with | [_, _, _], _ => rfl) (fun vs H Q E h => ?_) (fun cdv A outer s H vs Q E hr h => ?_)
  · obtain ⟨a, t, s, l, rfl, _⟩ := h
    rfl
  · obtain ⟨a, t, s1, l, rfl, ⟨tl, ha, vs, hl, pw⟩, ok, hs, mem, ln, k⟩ := h
    have hu := hu_of hr
    refine ⟨_, (pss_cons (ps_set (i := 3) sc_law_output.nd rfl (by first | exact Or.inl rfl | exact Or.inr rfl) pe_str)
      (pss_cons (ps_for PassesOwn.never rfl (pi_str (pv 2)) (pg_name (i := 4) sc_law_output.nd rfl (by first | exact Or.inl rfl | exact Or.inr rfl)) (pss_cons (ps_asg (pe_ix (ix_tupK K) (pe_ix (ix_listK K) (pe_ix (ix_tupK K) (pv 0) pe_int (fun _ _ => rfl)) (pv 1) (fun _ _ => rfl)) (pe_m1 PySem.F.slot_str_index PySem.F.type_str_index mt_sindex (pe_ix (ix_tupK K) (pv 0) pe_int (fun _ _ => rfl)) (pv 4)) (fun _ _ => rfl)) (pg_tupK K (n := 2) (by rfl) (pgs_cons (pg_name (i := 1) sc_law_output.nd rfl (by first | exact Or.inl rfl | exact Or.inr rfl)) (pgs_cons (pg_name (i := 5) sc_law_output.nd rfl (by first | exact Or.inl rfl | exact Or.inr rfl)) pgs_nil))))
      (pss_one (ps_set (i := 3) sc_law_output.nd rfl (by first | exact Or.inl rfl | exact Or.inr rfl) (pe_op op_add_str (pv 3) (pv 5))))))
      (pss_one (ps_ret (pe_tup (pa_cons (pv 1) (pa_cons (pv 3) pa_nil))))))), ?_⟩
    refine ⟨_, rfl, _, rfl, ?_⟩
    refine for_it walk_str (fun i σ H' => ∃ r4 r5, σ = [some (V.ref a), some (V.int (runL (tD t) s1 (l.take i) : Nat)), some (V.str (S l)), some (V.str (S (outL (tD t) (tO t) s1 (l.take i)))), r4, r5] ∧ H' = H) ?_ (fun _ _ _ _ _ => trivial) ?_ ?_
    · exact ⟨none, none, rfl, rfl⟩
    · rintro i x σ H1 H2 hi ⟨r4, r5, rfl, rfl⟩ ⟨rfl, c, hc, rfl⟩
      have hc' := str_at hc
      have cm := mem c (List.mem_of_getElem? hc')
      have tm : ∀ s c, s < t.tb.length → c ∈ l.take i → tD t s c < t.tb.length := fun s c h1 h2 => ok.d s c h1 (mem c (List.mem_of_mem_take h2))
      have tf : ∀ s c, s < t.tb.length → c ∈ l.take i → (tO t s c).length ≤ 1 := fun s c h1 h2 => ok.f s c h1 (mem c (List.mem_of_mem_take h2))
      have lt := run_lt (D := tD t) (l.take i) tm hs
      have ol := out_len (D := tD t) (f := tO t) (l.take i) tm tf hs
      obtain ⟨row, h1, h2, _, _⟩ := ok.at lt cm
      obtain ⟨v, hv, p, ws, rfl, hp, pws⟩ := paired_get' pw h1
      obtain ⟨v2, hv2, q, rfl, hq⟩ := paired_get' pws h2
      obtain ⟨⟨rest, hocc⟩, hsix⟩ := six_occ cm
      refine ⟨_, rfl, a, _, 2, _, rfl, rfl, SqT.of ha, atI_nat (j := 2) rfl, _, rfl, tl, vs, _, _, rfl, rfl, SqL.of hl, atI_nat hv, _, rfl, a, _, 0, _, rfl, rfl, SqT.of ha, atI_nat (j := 0) rfl, ⟨_, rfl⟩, _, rfl, _, _, _, rest, rfl, rfl, hocc, p, ws, _, _, rfl, rfl, SqT.of hp, atI_nat hv2, ?_⟩
      refine ⟨q, _, rfl, SqT.of hq, rfl, _, _, rfl, _, _, rfl, rfl, ?_⟩
      refine ⟨_, rfl, _, rfl, _, _, rfl, rfl, ?_, some (V.str ⟨#[c]⟩), some (V.str (S (tst t (runL (tD t) s1 (l.take i)) c).2)), ?_, rfl⟩
      · have := ok.f _ c lt cm
        have l2 := List.length_take_le' i l
        rw [S_len, S_len, sizeLine_eq]
        show (outL (tD t) (tO t) s1 (l.take i)).length + (tO t (runL (tD t) s1 (l.take i)) c).length ≤ _
        omega
      · rw [take_one hc', runL_app, outL_app, S_cat]
        show _ = [_, _, _, some (V.str (S (_ ++ (_ ++ [])))), _, _]
        rw [List.append_nil]
        rfl
    · rintro σ H1 ⟨r4, r5, rfl, rfl⟩
      rw [str_size, List.take_length]
      refine ⟨_, rfl, _, rfl, (by show 2 ≤ sizeLine; decide), fun q hq => k q _ (same_new hq) upd_same⟩
theorem out_blocks {D : Nat → Nat → Nat} {f : Nat → Nat → Wd} {s0 : Nat} {c : Wd} : ∀ j, ((List.range j).map fun i => outL D f (runL D s0 (rep i c)) c).flatten = outL D f s0 (rep j c)
  | 0 => rfl
  | j + 1 => by
    rw [List.range_succ, List.map_append, List.flatten_append, out_blocks j, rep_succ', outL_app]
    simp
def sp_law_image : Sp := fun vs H Q _ => ∃ (a b : Addr) (t : Tr) (r : Wd × Wd), vs = [.ref a, .ref b] ∧ TldV H a t ∧ TrOk t ∧ RowAt H b r ∧ r.2 ≠ [] ∧ (∀ x ∈ r.1 ++ r.2, x ∈ t.src) ∧ r.1.length ≤ 60 ∧ r.2.length ≤ 300 ∧
  ∀ j, 1 ≤ j → runL (tD t) (runL (tD t) t.st (r.1 ++ rep t.tb.length r.2)) (rep j r.2) = runL (tD t) t.st (r.1 ++ rep t.tb.length r.2) →
    (outL (tD t) (tO t) (runL (tD t) t.st (r.1 ++ rep t.tb.length r.2)) (rep j r.2) = [] → ∀ H', Same H H' → Q .non H') ∧
    (outL (tD t) (tO t) (runL (tD t) t.st (r.1 ++ rep t.tb.length r.2)) (rep j r.2) ≠ [] → ∀ b' r' H', Same H H' → RowAt H' b' r' → Eqv (outL (tD t) (tO t) t.st (r.1 ++ rep t.tb.length r.2), outL (tD t) (tO t) (runL (tD t) t.st (r.1 ++ rep t.tb.length r.2)) (rep j r.2)) r' → r'.1.length ≤ 5000 → r'.2.length ≤ 5000 → Q (.ref b') H')
theorem sc_law_image : FnScope ["_law_told_here", "_law_row", "_law_state", "_law_found", "_law_states", "_law_outputs", "_law_turn", "_law_output_here", "_law_cycle"] ["_law_told_here", "_law_row"] (defScope s_g_law_image) := ⟨rfl, rfl, rfl, by decide +kernel, rfl, by decide +kernel, by decide +kernel⟩
theorem ok_law_image (T : Tp K mg) (G_law_output : GOk P w K mg base "_law_output" 1 ["_law_told_here", "_law_state", "_law_text"] sp_law_output) (G_law_normal : GOk P w K mg base "_law_normal" 1 ["_law_row"] sp_law_normal) : GOk P w K mg base "_law_image" 2 ["_law_told_here", "_law_row"] sp_law_image := by
  refine gok_of (st := s_g_law_image) T.fd_g_law_image T.g_law_image sc_law_image (fun _ _ _ _ _ _ us hl => match us, hl with | [_, _], _ => rfl) (fun vs H Q E h => ?_) (fun cdv A outer s H vs Q E hr h => ?_)
  · obtain ⟨a, b, t, r, rfl, _⟩ := h
    rfl
  · obtain ⟨a, b, t, ⟨p, c⟩, rfl, mT, ok, hb, hc, mem, lp, lc, k⟩ := h
    have hu := hu_of hr
    refine ⟨_, (pss_cons (ps_asg (pe_g G_law_output (hr.mono (by decide)) (pa_cons (pv 0) (pa_cons (pe_ix (ix_tupK K) (pv 0) pe_int (fun _ _ => rfl)) (pa_cons (pe_op op_add_str (pe_ix (ix_tupK K) (pv 1) pe_int (fun _ _ => rfl)) (pe_op op_mul_str (pe_ix (ix_tupK K) (pv 1) pe_int (fun _ _ => rfl)) (pe_callB (len_seqK K) (by rfl) T.b_len PySem.boot_len (pa_cons (pe_ix (ix_tupK K) (pv 0) pe_int (fun _ _ => rfl)) pa_nil)))) pa_nil)))) (pg_tupK K (n := 2) (by rfl) (pgs_cons (pg_name (i := 2) sc_law_image.nd rfl (by first | exact Or.inl rfl | exact Or.inr rfl)) (pgs_cons (pg_name (i := 3) sc_law_image.nd rfl (by first | exact Or.inl rfl | exact Or.inr rfl)) pgs_nil))))
      (pss_cons (ps_par (i := 4) (j := 5) (by rfl) sc_law_image.nd rfl rfl (by decide) rfl rfl (pa_cons (pe_lst (pa_cons (pv 2) pa_nil)) (pa_cons (pe_lst pa_nil) pa_nil)) (by rfl))
      (pss_cons (ps_for PassesOwn.never rfl (pi_range1 (by rfl) T.b_range (pa_cons (pe_callB (len_seqK K) (by rfl) T.b_len PySem.boot_len (pa_cons (pe_ix (ix_tupK K) (pv 0) pe_int (fun _ _ => rfl)) pa_nil)) pa_nil)) (pg_name (i := 6) sc_law_image.nd rfl (by first | exact Or.inl rfl | exact Or.inr rfl)) (pss_one (ps_if (PW.pt (pw_or (pt_cmpR op_eq (pe_callB (len_seqK K) (by rfl) T.b_len PySem.boot_len (pa_cons (pv 4) pa_nil)) pe_int (nomark _)) (pw_or1 (pt_cmpR op_ne (pe_ix (ix_listK K) (pv 4) (pe_un un_neg pe_int) (fun _ _ => rfl)) (pe_ix (ix_listK K) (pv 4) pe_int (fun _ _ => rfl)) (nomark _))))) (pss_cons (ps_asg (pe_g G_law_output (hr.mono (by decide)) (pa_cons (pv 0) (pa_cons (pe_ix (ix_listK K) (pv 4) (pe_un un_neg pe_int) (fun _ _ => rfl)) (pa_cons (pe_ix (ix_tupK K) (pv 1) pe_int (fun _ _ => rfl)) pa_nil)))) (pg_tupK K (n := 2) (by rfl) (pgs_cons (pg_name (i := 2) sc_law_image.nd rfl (by first | exact Or.inl rfl | exact Or.inr rfl)) (pgs_cons (pg_name (i := 7) sc_law_image.nd rfl (by first | exact Or.inl rfl | exact Or.inr rfl)) pgs_nil))))
      (pss_cons (ps_expr (pe_bm PySem.F.plainAttrs_list PySem.F.slot_list_append PySem.F.type_list_append mt_append (pv 4) (pa_cons (pv 2) pa_nil)))
      (pss_one (ps_expr (pe_bm PySem.F.plainAttrs_list PySem.F.slot_list_append PySem.F.type_list_append mt_append (pv 5) (pa_cons (pv 7) pa_nil)))))) pss_nil)))
      (pss_cons (ps_set (i := 8) sc_law_image.nd rfl (by first | exact Or.inl rfl | exact Or.inr rfl) (pe_join pe_str (pv 5)))
      (pss_one (ps_ret (pe_ifExp (pt_cmpR op_ne (pv 8) pe_str (nomark _)) (pe_g G_law_normal (hr.mono (by decide)) (pa_cons (pe_tup (pa_cons (pv 3) (pa_cons (pv 8) pa_nil))) pa_nil)) pe_non))))))), ?_⟩
    have lp' : p.length ≤ 60 := lp
    have lc' : c.length ≤ 300 := lc
    have n4 := ok.n4
    have n1 := ok.n1
    obtain ⟨tl, ha, vs, hl, pw⟩ := _root_.id mT
    have lw := paired_len pw
    have crl : (rep t.tb.length c).length ≤ 1200 := by
      rw [rep_len]
      exact Nat.mul_le_mul n4 lc'
    have memc : ∀ (j : Nat), ∀ x ∈ rep j c, x ∈ t.src := fun j x hx => mem x (List.mem_append_right _ (rep_mem hx))
    have memp : ∀ x ∈ p ++ rep t.tb.length c, x ∈ t.src := fun x hx => by
      rcases List.mem_append.mp hx with q | q
      · exact mem x (List.mem_append_left _ q)
      · exact memc _ x q
    refine ⟨_, rfl, _, rfl, a, _, 3, _, rfl, rfl, SqT.of ha, atI_nat (j := 3) rfl, _, rfl, b, _, 0, _, rfl, rfl, SqT.of hb, atI_nat (j := 0) rfl, _, rfl, b, _, 1, _, rfl, rfl, SqT.of hb, atI_nat (j := 1) rfl, ?_⟩
    refine ⟨_, rfl, a, _, 2, _, rfl, rfl, SqT.of ha, atI_nat (j := 2) rfl, tl, vs, rfl, .inl (SqL.of hl), ?_⟩
    refine ⟨_, _, rfl, rfl, (by omega), (by omega), ?_, ?_, ?_⟩
    · rw [S_len]
      show c.length < 1000000
      omega
    · rw [S_len]
      show c.length * (((vs.length : Nat) : Int)).toNat ≤ 1000000
      rw [Int.toNat_natCast, lw]
      exact Nat.le_trans (Nat.mul_le_mul lc' n4) (by decide)
    have emul : Txt.mul (S c) ((vs.length : Nat) : Int) = S (rep t.tb.length c) := by
      rw [mul_S _ (Int.natCast_nonneg _), Int.toNat_natCast, lw]
    refine ⟨_, _, rfl, rfl, ?_, ?_⟩
    · show (S p).length + (Txt.mul (S c) ((vs.length : Nat) : Int)).length ≤ sizeLine
      rw [emul, S_len, S_len, sizeLine_eq]
      omega
    have eapp : S p ++ Txt.mul (S c) ((vs.length : Nat) : Int) = S (p ++ rep t.tb.length c) := by rw [emul, S_cat]
    refine ⟨a, t, t.st, p ++ rep t.tb.length c, ?_, mT, ok, ok.st, memp, by rw [List.length_append]; omega, fun q H1 s1 hq => ?_⟩
    · show [_, _, V.str (S p ++ Txt.mul (S c) ((vs.length : Nat) : Int))] = _
      rw [eapp]
    refine ⟨q, _, rfl, SqT.of hq, rfl, _, _, rfl, _, _, rfl, rfl, ?_⟩
    obtain ⟨s0, es0⟩ : ∃ s0, s0 = runL (tD t) t.st (p ++ rep t.tb.length c) := ⟨_, rfl⟩
    obtain ⟨X, eX⟩ : ∃ X, X = outL (tD t) (tO t) t.st (p ++ rep t.tb.length c) := ⟨_, rfl⟩
    have dm : ∀ (l : Wd), (∀ x ∈ l, x ∈ t.src) → ∀ s c, s < t.tb.length → c ∈ l → tD t s c < t.tb.length := fun l h s c h1 h2 => ok.d s c h1 (h c h2)
    have fm : ∀ (l : Wd), (∀ x ∈ l, x ∈ t.src) → ∀ s c, s < t.tb.length → c ∈ l → (tO t s c).length ≤ 1 := fun l h s c h1 h2 => ok.f s c h1 (h c h2)
    have s0lt : s0 < t.tb.length := by
      rw [es0]
      exact run_lt _ (dm _ memp) ok.st
    have Xl : X.length ≤ 1260 := by
      rw [eX]
      refine Nat.le_trans (out_len _ (dm _ memp) (fm _ memp) ok.st) ?_
      rw [List.length_append]
      omega
    have rlt : ∀ j, runL (tD t) s0 (rep j c) < t.tb.length := fun j => run_lt _ (dm _ (memc j)) s0lt
    have k' := k
    clear k
    have per := period (D := tD t) (n := t.tb.length) (s0 := t.st) (p := p) (c := c) (fun i _ => run_lt _ (fun s x h1 h2 => ok.d s x h1 (by
      rcases List.mem_append.mp h2 with q | q
      · exact mem x (List.mem_append_left _ q)
      · exact memc _ x q)) ok.st)
    rw [← es0] at per ⊢
    rw [← eX]
    clear hq
    refine ⟨_, rfl, (by show 1 ≤ sizeLine; decide), fun l1 hl1 => ⟨Nat.zero_le _, fun l2 hl2 => ⟨_, _, rfl, ?_⟩⟩⟩
    have n12 : l1 ≠ l2 := fun e => by
      rw [← e, upd_same] at hl2
      cases hl2
    have sA := same_new (o := .lst [V.int (s0 : Int)]) hl1
    have sB := same_new (o := .lst []) hl2
    have h1 : (upd (upd H1 l1 (.lst [V.int (s0 : Int)])) l2 (.lst [])) l1 = some (.lst [V.int (s0 : Int)]) := sB _ _ upd_same
    have h2 : (upd (upd H1 l1 (.lst [V.int (s0 : Int)])) l2 (.lst [])) l2 = some (.lst []) := upd_same
    have sAB := s1.trans (sA.trans sB)
    have nl1 : H l1 = none := s1.free hl1
    have nl2 : H l2 = none := (s1.trans sA).free hl2
    generalize upd (upd H1 l1 (.lst [V.int (s0 : Int)])) l2 (.lst []) = H2 at sAB h1 h2 ⊢
    clear sA sB hl1 hl2
    have ha2 := sAB _ _ ha
    refine ⟨_, rfl, a, _, 2, _, rfl, rfl, SqT.of ha2, atI_nat (j := 2) rfl, tl, vs, rfl, .inl (SqL.of (sAB _ _ hl)), _, rfl, (by omega), (by omega), ?_⟩
    refine for_it walk_range (fun i σ H' => ∃ r2 r6 r7 r8 j, σ = [some (V.ref a), some (V.ref b), r2, some (V.str (S X)), some (V.ref l1), some (V.ref l2), r6, r7, r8] ∧ Same H H' ∧ H' l1 = some (.lst ((List.range (j + 1)).map fun i => V.int (runL (tD t) s0 (rep i c) : Nat))) ∧
      H' l2 = some (.lst ((((List.range j).map fun i => outL (tD t) (tO t) (runL (tD t) s0 (rep i c)) c).map S).map V.str)) ∧ j ≤ i ∧ ((j = i ∧ ∀ i', 1 ≤ i' → i' < j → runL (tD t) s0 (rep i' c) ≠ s0) ∨ (1 ≤ j ∧ runL (tD t) s0 (rep j c) = s0))) ?_ (fun _ _ _ _ _ => trivial) ?_ ?_
    · exact ⟨_, _, _, _, 0, rfl, sAB, h1, h2, Nat.le_refl _, .inl ⟨rfl, fun i' a b => by omega⟩⟩
    · rintro i x σ H3 H4 hi ⟨r2, r6, r7, r8, j, rfl, s3, h13, h23, ji, st⟩ ⟨rfl, rfl⟩
      rw [Int.toNat_natCast, lw] at hi
      have gl : ((List.range (j + 1)).map fun i => V.int (runL (tD t) s0 (rep i c) : Nat)) = ((List.range j).map fun i => V.int (runL (tD t) s0 (rep i c) : Nat)) ++ [V.int (runL (tD t) s0 (rep j c) : Nat)] := by
        rw [List.range_succ, List.map_append]
        rfl
      have g0 : ((List.range (j + 1)).map fun i => V.int (runL (tD t) s0 (rep i c) : Nat))[0]? = some (V.int (s0 : Nat)) := by
        rw [List.getElem?_map, List.getElem?_range (by omega)]
        rfl
      have lenl : ((List.range (j + 1)).map fun i => V.int (runL (tD t) s0 (rep i c) : Nat)).length = j + 1 := by rw [List.length_map, List.length_range]
      have gj : atI ((List.range (j + 1)).map fun i => V.int (runL (tD t) s0 (rep i c) : Nat)) (-1) = some (V.int (runL (tD t) s0 (rep j c) : Nat)) := by
        rw [gl]
        exact atI_last _ _
      have hb3 := s3 _ _ hb
      have ha3 := s3 _ _ ha
      have ha3 := s3 _ _ ha
      have jle : j ≤ 4 := by omega
      have c1 : decide (V.int ((((List.range (j + 1)).map fun i => V.int (runL (tD t) s0 (rep i c) : Nat)).length : Nat) : Int) = V.int 1) = decide (j = 0) := by
        rw [lenl, dec_int, Bool.eq_iff_iff, beq_iff_eq, decide_eq_true_iff]
        omega
      by_cases hstop : 1 ≤ j ∧ runL (tD t) s0 (rep j c) = s0
      · refine st_no (ans_or (fun Q q => ⟨_, rfl, l1, _, rfl, .inl (SqL.of h13), rfl, _, rfl, by rw [c1, decide_eq_false (by omega)]; exact q⟩) (fun Q q => ⟨_, rfl, _, rfl, l1, _, _, _, rfl, rfl, SqL.of h13, gj, _, rfl, l1, _, 0, _, rfl, rfl, SqL.of h13, atI_nat (j := 0) g0, rfl, _, rfl, by rw [hstop.2]; simpa using q⟩)) ?_
        exact ⟨_, _, _, _, j, rfl, s3, h13, h23, by omega, .inr hstop⟩
      · have hji : j = i ∧ ∀ i', 1 ≤ i' → i' < j → runL (tD t) s0 (rep i' c) ≠ s0 := st.resolve_right hstop
        have yes : Ans (tOr (tTest (tOp rEq (tCB (rLenK K) (tCons (tVar 4) tNil)) (tC (V.int 1)))) (tTest (tOp rNe (tOp (rIxL K) (tVar 4) (tUn (rU fun i => V.int (-i)) (tC (V.int 1)))) (tOp (rIxL K) (tVar 4) (tC (V.int 0)))))) [some (V.ref a), some (V.ref b), r2, some (V.str (S X)), some (V.ref l1), some (V.ref l2), some (V.int (0 + (i : Int))), r7, r8] H4 true := by
          by_cases j0 : j = 0
          · exact ans_or1 (fun Q q => ⟨_, rfl, l1, _, rfl, .inl (SqL.of h13), rfl, _, rfl, by rw [c1, decide_eq_true j0]; exact q⟩)
          · refine ans_or (fun Q q => ⟨_, rfl, l1, _, rfl, .inl (SqL.of h13), rfl, _, rfl, by rw [c1, decide_eq_false j0]; exact q⟩) (fun Q q => ⟨_, rfl, _, rfl, l1, _, _, _, rfl, rfl, SqL.of h13, gj, _, rfl, l1, _, 0, _, rfl, rfl, SqL.of h13, atI_nat (j := 0) g0, rfl, _, rfl, ?_⟩)
            have ne : runL (tD t) s0 (rep j c) ≠ s0 := fun e => hstop ⟨by omega, e⟩
            have : (!decide (V.int (runL (tD t) s0 (rep j c) : Nat) = V.int (s0 : Nat))) = true := by
              rw [decide_eq_false (fun e => ne (by have := V.int.inj e; omega))]
              rfl
            rw [this]
            exact q
        refine st_yes yes ?_
        refine ⟨_, rfl, _, rfl, _, rfl, l1, _, _, _, rfl, rfl, SqL.of h13, gj, _, rfl, b, _, 1, _, rfl, rfl, SqT.of hb3, atI_nat (j := 1) rfl, ?_⟩
        refine ⟨a, t, runL (tD t) s0 (rep j c), c, rfl, mT.mono s3, ok, rlt j, fun x hx => mem x (List.mem_append_right _ hx), by omega, fun q H5 s5 hq => ?_⟩
        refine ⟨q, _, rfl, SqT.of hq, rfl, _, _, rfl, _, _, rfl, rfl, ?_⟩
        have h15 := s5 _ _ h13
        have h25 := s5 _ _ h23
        refine ⟨_, rfl, .inl ⟨rfl, _, SqL.of h15⟩, _, rfl, l1, _, _, rfl, rfl, h15, ?_, ?_⟩
        · rw [lenl, sizeLine_eq]
          omega
        have h26 : (upd H5 l1 (.lst (((List.range (j + 1)).map fun i => V.int (runL (tD t) s0 (rep i c) : Nat)) ++ [V.int (runL (tD t) (runL (tD t) s0 (rep j c)) c : Nat)]))) l2 = _ := (upd_ne n12.symm).trans h25
        refine ⟨_, rfl, .inl ⟨rfl, _, SqL.of h26⟩, _, rfl, l2, _, _, rfl, rfl, h26, ?_, ?_⟩
        · rw [List.length_map, List.length_map, List.length_map, List.length_range, sizeLine_eq]
          omega
        refine ⟨_, some (V.int (0 + (i : Int))), some (V.str (S (outL (tD t) (tO t) (runL (tD t) s0 (rep j c)) c))), r8, j + 1, rfl, same_mut (same_mut (s3.trans s5) nl1) nl2, ?_, ?_, by omega, ?_⟩
        · rw [upd_ne n12, upd_same, List.range_succ (n := j + 1), List.map_append, List.map_singleton, rep_succ', runL_app]
        · rw [upd_same, List.range_succ, List.map_append, List.map_append, List.map_append]
          rfl
        · by_cases q : runL (tD t) s0 (rep (j + 1) c) = s0
          · exact .inr ⟨by omega, q⟩
          · refine .inl ⟨by omega, fun i' i1 i2 e => ?_⟩
            by_cases z : i' = j
            · subst z
              exact hstop ⟨i1, e⟩
            · exact hji.2 i' i1 (by omega) e
    · rintro σ H3 ⟨r2, r6, r7, r8, j, rfl, s3, h13, h23, ji, st⟩
      rw [Int.toNat_natCast, lw] at ji st
      have jle : j ≤ 4 := by omega
      have jj : 1 ≤ j ∧ runL (tD t) s0 (rep j c) = s0 := by
        rcases st with ⟨e, no⟩ | h
        · obtain ⟨t', t1, t2, e2⟩ := per
          by_cases z : t' = t.tb.length
          · rw [e, ← z]
            exact ⟨t1, e2⟩
          · exact absurd e2 (no t' t1 (by omega))
        · exact h
      obtain ⟨kn, kr⟩ := k' j jj.1 (by
        show runL (tD t) (runL (tD t) t.st (p ++ rep t.tb.length c)) (rep j c) = runL (tD t) t.st (p ++ rep t.tb.length c)
        rw [← es0]
        exact jj.2)
      replace kn : outL (tD t) (tO t) s0 (rep j c) = [] → ∀ H', Same H H' → Q .non H' := by rw [es0]; exact kn
      replace kr : outL (tD t) (tO t) s0 (rep j c) ≠ [] → ∀ b' r' H', Same H H' → RowAt H' b' r' → Eqv (X, outL (tD t) (tO t) s0 (rep j c)) r' → r'.1.length ≤ 5000 → r'.2.length ≤ 5000 → Q (.ref b') H' := by rw [es0, eX]; exact kr
      have yl : (outL (tD t) (tO t) s0 (rep j c)).length ≤ 1200 := by
        refine Nat.le_trans (out_len _ (dm _ (memc j)) (fm _ (memc j)) s0lt) ?_
        rw [rep_len]
        exact Nat.mul_le_mul jle lc'
      refine ⟨⟨_, rfl⟩, _, rfl, S [], l2, _, rfl, rfl, .inl (SqL.of h23), ?_, ?_⟩
      · rw [lens, ← List.length_flatten, out_blocks]
        show _ + _ * 0 ≤ _
        omega
      rw [join_nil, out_blocks]
      generalize outL (tD t) (tO t) s0 (rep j c) = Y at kn kr yl ⊢
      refine ⟨_, rfl, rfl, _, rfl, ?_⟩
      rw [lit_nil, dec_str]
      by_cases hy : Y = []
      · rw [decide_eq_true hy]
        exact iteF (kn hy H3 s3)
      · rw [decide_eq_false hy]
        refine iteT ⟨_, rfl, _, rfl, (by show 2 ≤ sizeLine; decide), fun z hz => ?_⟩
        have sz := same_new (o := .tup [V.str (S X), V.str (S Y)]) hz
        refine ⟨z, (X, Y), rfl, upd_same, hy, by show X.length ≤ 10000; omega, by show Y.length ≤ 10000; omega, fun b' r' H' s4 hr _ ev q1 q2 => ?_⟩
        have q1' : r'.1.length ≤ X.length := q1
        have q2' : r'.2.length ≤ Y.length := q2
        exact kr hy b' r' H' (s3.trans (sz.trans s4)) hr ev (by omega) (by omega)
end
end K42
set_option Elab.async false
set_option linter.all false
set_option maxRecDepth 100000
set_option maxHeartbeats 4000000
namespace K42
open PySem PySem.Spec PyProof.Rows L2

open SX
def RawV (H : Hp) (a : Addr) (r : Raw) : Prop := ∃ l, H a = some (.tup [.str (S r.ls), .ref l, .int r.st]) ∧ TabP PrV H l r.tb
theorem RawV.mono {H H' : Hp} {a : Addr} {r : Raw} (s : Same H H') (h : RawV H a r) : RawV H' a r := let ⟨l, h1, h2⟩ := h; ⟨l, s _ _ h1, h2.mono (fun t q => q.mono t) s⟩
theorem RawOk.d {r : Raw} (ok : RawOk r) : ∀ s c, s < r.tb.length → c ∈ r.ls → rD r s c < r.tb.length := fun s c hs hc => let ⟨_, _, _, h, _⟩ := ok.at hs hc; h
def sp_law_step : Sp := fun vs H Q _ => ∃ (a : Addr) (r : Raw) (s c : Nat), vs = [.ref a, .int s, .str (S [c])] ∧ RawV H a r ∧ RawOk r ∧ s < r.tb.length ∧ c ∈ r.ls ∧ ∀ q, H q = some (.tup [.int (rD r s c), .int (rG r s c)]) → Q (.ref q) H
section
variable {P : Program} {w : World} {K : PySem.W.Frag} {mg : Str → Option Value} {base : Heap}
theorem sc_law_step : FnScope ["_law_raw_here", "_law_state", "_law_letter"] ["_law_raw_here", "_law_state", "_law_letter"] (defScope s_g_law_step) := ⟨rfl, rfl, rfl, by decide +kernel, rfl, by decide +kernel, by decide +kernel⟩
theorem ok_law_step (T : Tp K mg)  : GOk P w K mg base "_law_step" 1 ["_law_raw_here", "_law_state", "_law_letter"] sp_law_step := by
  refine gok_of (st := s_g_law_step) T.fd_g_law_step T.g_law_step sc_law_step (fun _ _ _ _ _ _ us hl => match us, hl with | [_, _, _], _ => rfl) (fun vs H Q E h => ?_) (fun cdv A outer s H vs Q E hr h => ?_)
  · obtain ⟨a, r, s, c, rfl, _⟩ := h
    rfl
  · obtain ⟨a, r, s1, c, rfl, ⟨tl, ha, vs, hl, pw⟩, ok, hs, hc, k⟩ := h
    have hu := hu_of hr
    refine ⟨_, (pss_one (ps_ret (pe_ix (ix_tupK K) (pe_ix (ix_listK K) (pe_ix (ix_tupK K) (pv 0) pe_int (fun _ _ => rfl)) (pv 1) (fun _ _ => rfl)) (pe_m1 PySem.F.slot_str_index PySem.F.type_str_index mt_sindex (pe_ix (ix_tupK K) (pv 0) pe_int (fun _ _ => rfl)) (pv 2)) (fun _ _ => rfl)))), ?_⟩
    obtain ⟨row, h1, h2, _, _⟩ := ok.at hs hc
    obtain ⟨v, hv, p, ws, rfl, hp, pws⟩ := paired_get' pw h1
    obtain ⟨v2, hv2, q, rfl, hq⟩ := paired_get' pws h2
    obtain ⟨⟨rest, hocc⟩, hsix⟩ := six_occ hc
    exact ⟨_, rfl, a, _, 1, _, rfl, rfl, SqT.of ha, atI_nat (j := 1) rfl, _, rfl, tl, vs, _, _, rfl, rfl, SqL.of hl, atI_nat hv, _, rfl, a, _, 0, _, rfl, rfl, SqT.of ha, atI_nat (j := 0) rfl, ⟨_, rfl⟩, _, rfl, _, _, _, rest, rfl, rfl, hocc, p, ws, _, _, rfl, rfl, SqT.of hp, atI_nat hv2, k q hq⟩
def sp_law_after : Sp := fun vs H Q _ => ∃ (a : Addr) (r : Raw) (s : Nat) (l : Wd), vs = [.ref a, .int s, .str (S l)] ∧ RawV H a r ∧ RawOk r ∧ s < r.tb.length ∧ (∀ x ∈ l, x ∈ r.ls) ∧ l.length ≤ 100000 ∧
  ∀ q H', Same H H' → H' q = some (.tup [.int (runL (rD r) s l : Nat), .int (mx (rD r) (rG r) s l : Nat)]) → Q (.ref q) H'
theorem sc_law_after : FnScope ["_law_raw_here", "_law_state", "_law_text", "_law_greatest", "_law_letter", "_law_priority"] ["_law_raw_here", "_law_state", "_law_text"] (defScope s_g_law_after) := ⟨rfl, rfl, rfl, by decide +kernel, rfl, by decide +kernel, by decide +kernel⟩
theorem ok_law_after (T : Tp K mg) (G_law_step : GOk P w K mg base "_law_step" 1 ["_law_raw_here", "_law_state", "_law_letter"] sp_law_step) : GOk P w K mg base "_law_after" 2 ["_law_raw_here", "_law_state", "_law_text"] sp_law_after := by
  refine gok_of (st := s_g_law_after) T.fd_g_law_after T.g_law_after sc_law_after (fun _ _ _ _ _ _ us hl => match us, hl with | [_, _, _], _ => rfl) (fun vs H Q E h => ?_) (fun cdv A outer s H vs Q E hr h => ?_)
  · obtain ⟨a, r, s, l, rfl, _⟩ := h
    rfl
  · obtain ⟨a, r, s1, l, rfl, mR, ok, hs, mem, ln, k⟩ := h
    have hu := hu_of hr
    refine ⟨_, (pss_cons (ps_set (i := 3) sc_law_after.nd rfl (by first | exact Or.inl rfl | exact Or.inr rfl) pe_int)
      (pss_cons (ps_for PassesOwn.never rfl (pi_str (pv 2)) (pg_name (i := 4) sc_law_after.nd rfl (by first | exact Or.inl rfl | exact Or.inr rfl)) (pss_cons (ps_asg (pe_g G_law_step (hr.mono (by decide)) (pa_cons (pv 0) (pa_cons (pv 1) (pa_cons (pv 4) pa_nil)))) (pg_tupK K (n := 2) (by rfl) (pgs_cons (pg_name (i := 1) sc_law_after.nd rfl (by first | exact Or.inl rfl | exact Or.inr rfl)) (pgs_cons (pg_name (i := 5) sc_law_after.nd rfl (by first | exact Or.inl rfl | exact Or.inr rfl)) pgs_nil))))
      (pss_one (ps_set (i := 3) sc_law_after.nd rfl (by first | exact Or.inl rfl | exact Or.inr rfl) (pe_callB (call_max2 rfl) (by rfl) T.b_max (by decide +kernel) (pa_cons (pv 3) (pa_cons (pv 5) pa_nil)))))))
      (pss_one (ps_ret (pe_tup (pa_cons (pv 1) (pa_cons (pv 3) pa_nil))))))), ?_⟩
    refine ⟨_, rfl, _, rfl, ?_⟩
    refine for_it walk_str (fun i σ H' => ∃ r4 r5, σ = [some (V.ref a), some (V.int (runL (rD r) s1 (l.take i) : Nat)), some (V.str (S l)), some (V.int (mx (rD r) (rG r) s1 (l.take i) : Nat)), r4, r5] ∧ H' = H) ?_ (fun _ _ _ _ _ => trivial) ?_ ?_
    · exact ⟨none, none, rfl, rfl⟩
    · rintro i x σ H1 H2 hi ⟨r4, r5, rfl, rfl⟩ ⟨rfl, c, hc, rfl⟩
      have hc' := str_at hc
      have cm := mem c (List.mem_of_getElem? hc')
      have tm : ∀ s c, s < r.tb.length → c ∈ l.take i → rD r s c < r.tb.length := fun s c h1 h2 => ok.d s c h1 (mem c (List.mem_of_mem_take h2))
      have lt := run_lt (D := rD r) (l.take i) tm hs
      refine ⟨_, rfl, _, rfl, _, rfl, a, r, runL (rD r) s1 (l.take i), c, rfl, mR, ok, lt, cm, fun q hq => ?_⟩
      refine ⟨q, _, rfl, SqT.of hq, rfl, _, _, rfl, _, _, rfl, rfl, ?_⟩
      refine ⟨_, rfl, _, rfl, _, _, rfl, some (V.str ⟨#[c]⟩), some (V.int (rG r (runL (rD r) s1 (l.take i)) c)), ?_, rfl⟩
      have e1 : runL (rD r) s1 (l.take (i + 1)) = rD r (runL (rD r) s1 (l.take i)) c := by
        rw [take_one hc', runL_app]
        rfl
      have e2 : mx (rD r) (rG r) s1 (l.take (i + 1)) = max (mx (rD r) (rG r) s1 (l.take i)) (rG r (runL (rD r) s1 (l.take i)) c) := by
        rw [take_one hc', mx_app]
        show max _ (max (rG r (runL (rD r) s1 (l.take i)) c) 0) = _
        rw [Nat.max_zero]
      have e3 : (if ((rG r (runL (rD r) s1 (l.take i)) c : Nat) : Int) > ((mx (rD r) (rG r) s1 (l.take i) : Nat) : Int) then ((rG r (runL (rD r) s1 (l.take i)) c : Nat) : Int) else ((mx (rD r) (rG r) s1 (l.take i) : Nat) : Int)) = ((mx (rD r) (rG r) s1 (l.take (i + 1)) : Nat) : Int) := by
        rw [e2]
        split <;> omega
      rw [e1]
      show [_, _, _, some (V.int (if ((rG r (runL (rD r) s1 (l.take i)) c : Nat) : Int) > ((mx (rD r) (rG r) s1 (l.take i) : Nat) : Int) then ((rG r (runL (rD r) s1 (l.take i)) c : Nat) : Int) else ((mx (rD r) (rG r) s1 (l.take i) : Nat) : Int))), _, _] = _
      rw [e3]
    · rintro σ H1 ⟨r4, r5, rfl, rfl⟩
      rw [str_size, List.take_length]
      refine ⟨_, rfl, _, rfl, (by show 2 ≤ sizeLine; decide), fun q hq => k q _ (same_new hq) upd_same⟩
def accB (r : Raw) (w : Wd × Wd) : Bool := decide (mx (rD r) (rG r) (runL (rD r) r.st (w.1 ++ rep r.tb.length w.2)) (rep r.tb.length w.2) % 2 = 0)
def sp_law_accepts : Sp := fun vs H Q _ => ∃ (a b : Addr) (r : Raw) (w : Wd × Wd), vs = [.ref a, .ref b] ∧ RawV H a r ∧ RawOk r ∧ RowAt H b w ∧ (∀ x ∈ w.1 ++ w.2, x ∈ r.ls) ∧ w.1.length ≤ 5000 ∧ w.2.length ≤ 5000 ∧
  ∀ H', Same H H' → Q (.bl (accB r w)) H'
theorem sc_law_accepts : FnScope ["_law_raw_here", "_law_row", "_law_state", "_law_greatest"] ["_law_raw_here", "_law_row"] (defScope s_g_law_accepts) := ⟨rfl, rfl, rfl, by decide +kernel, rfl, by decide +kernel, by decide +kernel⟩
theorem ok_law_accepts (T : Tp K mg) (G_law_after : GOk P w K mg base "_law_after" 2 ["_law_raw_here", "_law_state", "_law_text"] sp_law_after) : GOk P w K mg base "_law_accepts" 3 ["_law_raw_here", "_law_row"] sp_law_accepts := by
  refine gok_of (st := s_g_law_accepts) T.fd_g_law_accepts T.g_law_accepts sc_law_accepts (fun _ _ _ _ _ _ us hl => match us, hl with | [_, _], _ => rfl) (fun vs H Q E h => ?_) (fun cdv A outer s H vs Q E hr h => ?_)
  · obtain ⟨a, b, r, w, rfl, _⟩ := h
    rfl
  · obtain ⟨a, b, r, ⟨p, c⟩, rfl, mR, ok, hb, mem, lp, lc, k⟩ := h
    have hu := hu_of hr
    refine ⟨_, (pss_cons (ps_asg (pe_g G_law_after (hr.mono (by decide)) (pa_cons (pv 0) (pa_cons (pe_ix (ix_tupK K) (pv 0) pe_int (fun _ _ => rfl)) (pa_cons (pe_op op_add_str (pe_ix (ix_tupK K) (pv 1) pe_int (fun _ _ => rfl)) (pe_op op_mul_str (pe_ix (ix_tupK K) (pv 1) pe_int (fun _ _ => rfl)) (pe_callB (len_seqK K) (by rfl) T.b_len PySem.boot_len (pa_cons (pe_ix (ix_tupK K) (pv 0) pe_int (fun _ _ => rfl)) pa_nil)))) pa_nil)))) (pg_tupK K (n := 2) (by rfl) (pgs_cons (pg_name (i := 2) sc_law_accepts.nd rfl (by first | exact Or.inl rfl | exact Or.inr rfl)) (pgs_cons (pg_name (i := 3) sc_law_accepts.nd rfl (by first | exact Or.inl rfl | exact Or.inr rfl)) pgs_nil))))
      (pss_one (ps_ret (pe_cmpR op_eq (pe_op op_mod (pe_ix (ix_tupK K) (pe_g G_law_after (hr.mono (by decide)) (pa_cons (pv 0) (pa_cons (pv 2) (pa_cons (pe_op op_mul_str (pe_ix (ix_tupK K) (pv 1) pe_int (fun _ _ => rfl)) (pe_callB (len_seqK K) (by rfl) T.b_len PySem.boot_len (pa_cons (pe_ix (ix_tupK K) (pv 0) pe_int (fun _ _ => rfl)) pa_nil))) pa_nil)))) pe_int (fun _ _ => rfl)) pe_int) pe_int (nomark _))))), ?_⟩
    have lp' : p.length ≤ 5000 := lp
    have lc' : c.length ≤ 5000 := lc
    have n3 := ok.n3
    obtain ⟨tl, ha, vs, hl, pw⟩ := _root_.id mR
    have lw := paired_len pw
    have crl : (rep r.tb.length c).length ≤ 15000 := by
      rw [rep_len]
      exact Nat.mul_le_mul n3 lc'
    have memc : ∀ (j : Nat), ∀ x ∈ rep j c, x ∈ r.ls := fun j x hx => mem x (List.mem_append_right _ (rep_mem hx))
    have memp : ∀ x ∈ p ++ rep r.tb.length c, x ∈ r.ls := fun x hx => by
      rcases List.mem_append.mp hx with q | q
      · exact mem x (List.mem_append_left _ q)
      · exact memc _ x q
    have emul : Txt.mul (S c) ((vs.length : Nat) : Int) = S (rep r.tb.length c) := by
      rw [mul_S _ (Int.natCast_nonneg _), Int.toNat_natCast, lw]
    have eapp : S p ++ Txt.mul (S c) ((vs.length : Nat) : Int) = S (p ++ rep r.tb.length c) := by rw [emul, S_cat]
    have sz1 : (S c).length < 1000000 := by
      rw [S_len]
      omega
    have sz2 : (S c).length * (((vs.length : Nat) : Int)).toNat ≤ 1000000 := by
      rw [S_len, Int.toNat_natCast, lw]
      exact Nat.le_trans (Nat.mul_le_mul lc' n3) (by decide)
    refine ⟨_, rfl, _, rfl, a, _, 2, _, rfl, rfl, SqT.of ha, atI_nat (j := 2) rfl, _, rfl, b, _, 0, _, rfl, rfl, SqT.of hb, atI_nat (j := 0) rfl, _, rfl, b, _, 1, _, rfl, rfl, SqT.of hb, atI_nat (j := 1) rfl, ?_⟩
    refine ⟨_, rfl, a, _, 1, _, rfl, rfl, SqT.of ha, atI_nat (j := 1) rfl, tl, vs, rfl, .inl (SqL.of hl), ?_⟩
    refine ⟨_, _, rfl, rfl, (by omega), (by omega), sz1, sz2, ?_⟩
    refine ⟨_, _, rfl, rfl, ?_, ?_⟩
    · show (S p).length + (Txt.mul (S c) ((vs.length : Nat) : Int)).length ≤ sizeLine
      rw [emul, S_len, S_len, sizeLine_eq]
      omega
    refine ⟨a, r, r.st, p ++ rep r.tb.length c, ?_, mR, ok, ok.st, memp, by rw [List.length_append]; omega, fun q H1 s1 hq => ?_⟩
    · show [_, _, V.str (S p ++ Txt.mul (S c) ((vs.length : Nat) : Int))] = _
      rw [eapp]
    refine ⟨q, _, rfl, SqT.of hq, rfl, _, _, rfl, _, _, rfl, rfl, ?_⟩
    have slt : runL (rD r) r.st (p ++ rep r.tb.length c) < r.tb.length := run_lt _ (fun s x h1 h2 => ok.d s x h1 (memp x h2)) ok.st
    have ha1 := s1 _ _ ha
    refine ⟨_, rfl, _, rfl, _, rfl, b, _, 1, _, rfl, rfl, SqT.of (s1 _ _ hb), atI_nat (j := 1) rfl, ?_⟩
    refine ⟨_, rfl, a, _, 1, _, rfl, rfl, SqT.of ha1, atI_nat (j := 1) rfl, tl, vs, rfl, .inl (SqL.of (s1 _ _ hl)), ?_⟩
    refine ⟨_, _, rfl, rfl, (by omega), (by omega), sz1, sz2, ?_⟩
    refine ⟨a, r, _, rep r.tb.length c, ?_, mR.mono s1, ok, slt, memc _, by omega, fun q2 H2 s2 hq2 => ?_⟩
    · show [_, _, V.str (Txt.mul (S c) ((vs.length : Nat) : Int))] = _
      rw [emul]
    refine ⟨q2, _, 1, _, rfl, rfl, SqT.of hq2, atI_nat (j := 1) rfl, _, _, rfl, rfl, (by show (0 : Int) < 2; decide), rfl, ?_⟩
    have e : decide (V.int (((mx (rD r) (rG r) (runL (rD r) r.st (p ++ rep r.tb.length c)) (rep r.tb.length c) : Nat) : Int) % 2) = V.int 0) = accB r (p, c) := by
      unfold accB
      rw [dec_int, Bool.eq_iff_iff, beq_iff_eq, decide_eq_true_iff]
      show ((mx (rD r) (rG r) (runL (rD r) r.st (p ++ rep r.tb.length c)) (rep r.tb.length c) : Nat) : Int) % 2 = 0 ↔ mx (rD r) (rG r) (runL (rD r) r.st (p ++ rep r.tb.length c)) (rep r.tb.length c) % 2 = 0
      omega
    show Q (V.bl (decide (V.int (((mx (rD r) (rG r) (runL (rD r) r.st (p ++ rep r.tb.length c)) (rep r.tb.length c) : Nat) : Int) % 2) = V.int 0))) H2
    rw [e]
    exact k H2 (s1.trans s2)
end
end K42
set_option Elab.async false
set_option linter.all false
set_option maxRecDepth 100000
set_option maxHeartbeats 4000000
namespace K42
open PySem PySem.Spec PyProof.Rows L2

open SX
def OtlV (H : Hp) (a : Addr) (t : Op) : Prop := ∃ l, H a = some (.tup [.str (S t.src), .str (S t.tgt), .ref l, .int t.st]) ∧ OpTab H l t.tb
theorem OtlV.mono {H H' : Hp} {a : Addr} {t : Op} (s : Same H H') (h : OtlV H a t) : OtlV H' a t := let ⟨l, h1, h2⟩ := h; ⟨l, s _ _ h1, h2.mono s⟩
def oO (t : Op) (s _c : Nat) : Wd := [oL t s]
theorem OpOk.d {t : Op} (ok : OpOk t) : ∀ s c, s < t.tb.length → c ∈ 45 :: t.tgt → oD t s c < t.tb.length := fun s c hs hc => ((ok.at hs).2.2 c hc).2
theorem oO_len (t : Op) : ∀ (l : Wd) (s : Nat), (outL (oD t) (oO t) s l).length = l.length
  | [], _ => rfl
  | x :: l, s => by
    show ([oL t s] ++ outL (oD t) (oO t) (oD t s x) l).length = l.length + 1
    rw [List.length_append, oO_len t l]
    show 1 + l.length = _
    omega
def sp_law_written : Sp := fun vs H Q _ => ∃ (a : Addr) (t : Op) (s : Nat) (l : Wd), vs = [.ref a, .int s, .str (S l)] ∧ OtlV H a t ∧ OpOk t ∧ s < t.tb.length ∧ (∀ x ∈ l, x ∈ 45 :: t.tgt) ∧ l.length ≤ 20000 ∧
  ∀ q H', Same H H' → H' q = some (.tup [.int (runL (oD t) s l : Nat), .str (S (outL (oD t) (oO t) s l))]) → Q (.ref q) H'
section
variable {P : Program} {w : World} {K : PySem.W.Frag} {mg : Str → Option Value} {base : Heap}
theorem sc_law_written : FnScope ["_law_told_here", "_law_state", "_law_text", "_law_found", "_law_answer", "_law_letter", "_law_targets"] ["_law_told_here", "_law_state", "_law_text"] (defScope s_g_law_written) := ⟨rfl, rfl, rfl, by decide +kernel, rfl, by decide +kernel, by decide +kernel⟩
theorem ok_law_written (T : Tp K mg)  : GOk P w K mg base "_law_written" 1 ["_law_told_here", "_law_state", "_law_text"] sp_law_written := by
  refine gok_of (st := s_g_law_written) T.fd_g_law_written T.g_law_written sc_law_written (fun _ _ _ _ _ _ us hl => match us, hl with | [_, _, _], _ => rfl) (fun vs H Q E h => ?_) (fun cdv A outer s H vs Q E hr h => ?_)
  · obtain ⟨a, t, s, l, rfl, _⟩ := h
    rfl
  · obtain ⟨a, t, s1, l, rfl, ⟨tl, ha, vs, hl, pw⟩, ok, hs, mem, ln, k⟩ := h
    have hu := hu_of hr
    refine ⟨_, (pss_cons (ps_set (i := 3) sc_law_written.nd rfl (by first | exact Or.inl rfl | exact Or.inr rfl) pe_str)
      (pss_cons (ps_for PassesOwn.never rfl (pi_str (pv 2)) (pg_name (i := 4) sc_law_written.nd rfl (by first | exact Or.inl rfl | exact Or.inr rfl)) (pss_cons (ps_asg (pe_ix (ix_listK K) (pe_ix (ix_tupK K) (pv 0) pe_int (fun _ _ => rfl)) (pv 1) (fun _ _ => rfl)) (pg_tupK K (n := 2) (by rfl) (pgs_cons (pg_name (i := 5) sc_law_written.nd rfl (by first | exact Or.inl rfl | exact Or.inr rfl)) (pgs_cons (pg_name (i := 6) sc_law_written.nd rfl (by first | exact Or.inl rfl | exact Or.inr rfl)) pgs_nil))))
      (pss_one (ps_par (i := 3) (j := 1) (by rfl) sc_law_written.nd rfl rfl (by decide) rfl rfl (pa_cons (pe_op op_add_str (pv 3) (pv 5)) (pa_cons (pe_ix (ix_tupK K) (pv 6) (pe_m1 PySem.F.slot_str_index PySem.F.type_str_index mt_sindex (pe_op op_add_str pe_str (pe_ix (ix_tupK K) (pv 0) pe_int (fun _ _ => rfl))) (pv 4)) (fun _ _ => rfl)) pa_nil)) (by rfl)))))
      (pss_one (ps_ret (pe_tup (pa_cons (pv 1) (pa_cons (pv 3) pa_nil))))))), ?_⟩
    refine ⟨_, rfl, _, rfl, ?_⟩
    refine for_it walk_str (fun i σ H' => ∃ r4 r5 r6, σ = [some (V.ref a), some (V.int (runL (oD t) s1 (l.take i) : Nat)), some (V.str (S l)), some (V.str (S (outL (oD t) (oO t) s1 (l.take i)))), r4, r5, r6] ∧ H' = H) ?_ (fun _ _ _ _ _ => trivial) ?_ ?_
    · exact ⟨none, none, none, rfl, rfl⟩
    · rintro i x σ H1 H2 hi ⟨r4, r5, r6, rfl, rfl⟩ ⟨rfl, c, hc, rfl⟩
      have hc' := str_at hc
      have cm := mem c (List.mem_of_getElem? hc')
      have tm : ∀ s c, s < t.tb.length → c ∈ l.take i → oD t s c < t.tb.length := fun s c h1 h2 => ok.d s c h1 (mem c (List.mem_of_mem_take h2))
      have lt := run_lt (D := oD t) (l.take i) tm hs
      have ol := oO_len t (l.take i) s1
      have t3 := ok.a2.le
      obtain ⟨h1, _, h2⟩ := ok.at lt
      obtain ⟨h3, _⟩ := h2 c cm
      obtain ⟨v, hv, p, q, rfl, hp, hq⟩ := paired_get' pw h1
      obtain ⟨⟨rest, hocc⟩, hsix⟩ := six_occ cm
      refine ⟨_, rfl, a, _, 2, _, rfl, rfl, SqT.of ha, atI_nat (j := 2) rfl, _, rfl, tl, vs, _, _, rfl, rfl, SqL.of hl, atI_nat hv, ?_⟩
      refine ⟨p, _, rfl, SqT.of hp, rfl, _, _, rfl, _, _, rfl, rfl, ?_⟩
      refine ⟨_, rfl, _, rfl, _, _, rfl, rfl, ?_, ?_⟩
      · have l2 := List.length_take_le' i l
        rw [S_len, sizeLine_eq]
        show (outL (oD t) (oO t) s1 (l.take i)).length + 1 ≤ _
        omega
      have h4 : (intV (ost t (runL (oD t) s1 (l.take i))).2)[six (45 :: t.tgt) c]? = some (V.int ((oD t (runL (oD t) s1 (l.take i)) c : Nat) : Int)) := by
        unfold intV
        rw [List.getElem?_map, h3]
        rfl
      refine ⟨_, rfl, _, rfl, a, _, 1, _, rfl, rfl, SqT.of ha, atI_nat (j := 1) rfl, _, _, rfl, rfl, ?_, ⟨_, rfl⟩, _, rfl, _, _, six (45 :: t.tgt) c, rest, rfl, rfl, ?_, q, _, _, _, rfl, rfl, SqT.of hq, atI_nat h4, ?_⟩
      · rw [lit_wait, S_len, S_len, sizeLine_eq]
        show 1 + t.tgt.length ≤ _
        omega
      · rw [lit_wait, S_cat]
        exact hocc
      refine ⟨_, _, rfl, some (V.str ⟨#[c]⟩), some (V.str (S [(ost t (runL (oD t) s1 (l.take i))).1])), some (V.ref q), ?_, rfl⟩
      rw [take_one hc', runL_app, outL_app, S_cat]
      rfl
    · rintro σ H1 ⟨r4, r5, r6, rfl, rfl⟩
      rw [str_size, List.take_length]
      refine ⟨_, rfl, _, rfl, (by show 2 ≤ sizeLine; decide), fun q hq => k q _ (same_new hq) upd_same⟩
def sp_law_against : Sp := fun vs H Q _ => ∃ (a b : Addr) (t : Op) (r : Wd × Wd), vs = [.ref a, .ref b] ∧ OtlV H a t ∧ OpOk t ∧ RowAt H b r ∧ r.2 ≠ [] ∧ (∀ x ∈ r.1 ++ r.2, x ∈ 45 :: t.tgt) ∧ r.1.length ≤ 60 ∧ r.2.length ≤ 300 ∧
  ∀ j, 1 ≤ j → runL (oD t) (runL (oD t) t.st (r.1 ++ rep t.tb.length r.2)) (rep j r.2) = runL (oD t) t.st (r.1 ++ rep t.tb.length r.2) →
    ∀ b' r' H', Same H H' → RowAt H' b' r' → Eqv (outL (oD t) (oO t) t.st (r.1 ++ rep t.tb.length r.2), outL (oD t) (oO t) (runL (oD t) t.st (r.1 ++ rep t.tb.length r.2)) (rep j r.2)) r' → r'.1.length ≤ 5000 → r'.2.length ≤ 5000 → Q (.ref b') H'
theorem OpOk.f {t : Op} (ok : OpOk t) : ∀ s c, s < t.tb.length → c ∈ 45 :: t.tgt → (oO t s c).length ≤ 1 := fun _ _ _ _ => Nat.le_refl _
theorem sc_law_against : FnScope ["_law_told_here", "_law_row", "_law_state", "_law_found", "_law_states", "_law_outputs", "_law_turn", "_law_output_here"] ["_law_told_here", "_law_row"] (defScope s_g_law_against) := ⟨rfl, rfl, rfl, by decide +kernel, rfl, by decide +kernel, by decide +kernel⟩
theorem ok_law_against (T : Tp K mg) (G_law_written : GOk P w K mg base "_law_written" 1 ["_law_told_here", "_law_state", "_law_text"] sp_law_written) (G_law_normal : GOk P w K mg base "_law_normal" 1 ["_law_row"] sp_law_normal) : GOk P w K mg base "_law_against" 2 ["_law_told_here", "_law_row"] sp_law_against := by
  refine gok_of (st := s_g_law_against) T.fd_g_law_against T.g_law_against sc_law_against (fun _ _ _ _ _ _ us hl => match us, hl with | [_, _], _ => rfl) (fun vs H Q E h => ?_) (fun cdv A outer s H vs Q E hr h => ?_)
  · obtain ⟨a, b, t, r, rfl, _⟩ := h
    rfl
  · obtain ⟨a, b, t, ⟨p, c⟩, rfl, mT, ok, hb, hc, mem, lp, lc, k⟩ := h
    have hu := hu_of hr
    refine ⟨_, (pss_cons (ps_asg (pe_g G_law_written (hr.mono (by decide)) (pa_cons (pv 0) (pa_cons (pe_ix (ix_tupK K) (pv 0) pe_int (fun _ _ => rfl)) (pa_cons (pe_op op_add_str (pe_ix (ix_tupK K) (pv 1) pe_int (fun _ _ => rfl)) (pe_op op_mul_str (pe_ix (ix_tupK K) (pv 1) pe_int (fun _ _ => rfl)) (pe_callB (len_seqK K) (by rfl) T.b_len PySem.boot_len (pa_cons (pe_ix (ix_tupK K) (pv 0) pe_int (fun _ _ => rfl)) pa_nil)))) pa_nil)))) (pg_tupK K (n := 2) (by rfl) (pgs_cons (pg_name (i := 2) sc_law_against.nd rfl (by first | exact Or.inl rfl | exact Or.inr rfl)) (pgs_cons (pg_name (i := 3) sc_law_against.nd rfl (by first | exact Or.inl rfl | exact Or.inr rfl)) pgs_nil))))
      (pss_cons (ps_par (i := 4) (j := 5) (by rfl) sc_law_against.nd rfl rfl (by decide) rfl rfl (pa_cons (pe_lst (pa_cons (pv 2) pa_nil)) (pa_cons (pe_lst pa_nil) pa_nil)) (by rfl))
      (pss_cons (ps_for PassesOwn.never rfl (pi_range1 (by rfl) T.b_range (pa_cons (pe_callB (len_seqK K) (by rfl) T.b_len PySem.boot_len (pa_cons (pe_ix (ix_tupK K) (pv 0) pe_int (fun _ _ => rfl)) pa_nil)) pa_nil)) (pg_name (i := 6) sc_law_against.nd rfl (by first | exact Or.inl rfl | exact Or.inr rfl)) (pss_one (ps_if (PW.pt (pw_or (pt_cmpR op_eq (pe_callB (len_seqK K) (by rfl) T.b_len PySem.boot_len (pa_cons (pv 4) pa_nil)) pe_int (nomark _)) (pw_or1 (pt_cmpR op_ne (pe_ix (ix_listK K) (pv 4) (pe_un un_neg pe_int) (fun _ _ => rfl)) (pe_ix (ix_listK K) (pv 4) pe_int (fun _ _ => rfl)) (nomark _))))) (pss_cons (ps_asg (pe_g G_law_written (hr.mono (by decide)) (pa_cons (pv 0) (pa_cons (pe_ix (ix_listK K) (pv 4) (pe_un un_neg pe_int) (fun _ _ => rfl)) (pa_cons (pe_ix (ix_tupK K) (pv 1) pe_int (fun _ _ => rfl)) pa_nil)))) (pg_tupK K (n := 2) (by rfl) (pgs_cons (pg_name (i := 2) sc_law_against.nd rfl (by first | exact Or.inl rfl | exact Or.inr rfl)) (pgs_cons (pg_name (i := 7) sc_law_against.nd rfl (by first | exact Or.inl rfl | exact Or.inr rfl)) pgs_nil))))
      (pss_cons (ps_expr (pe_bm PySem.F.plainAttrs_list PySem.F.slot_list_append PySem.F.type_list_append mt_append (pv 4) (pa_cons (pv 2) pa_nil)))
      (pss_one (ps_expr (pe_bm PySem.F.plainAttrs_list PySem.F.slot_list_append PySem.F.type_list_append mt_append (pv 5) (pa_cons (pv 7) pa_nil)))))) pss_nil)))
      (pss_one (ps_ret (pe_g G_law_normal (hr.mono (by decide)) (pa_cons (pe_tup (pa_cons (pv 3) (pa_cons (pe_join pe_str (pv 5)) pa_nil))) pa_nil))))))), ?_⟩
    have lp' : p.length ≤ 60 := lp
    have lc' : c.length ≤ 300 := lc
    have n4 := ok.n4
    have n1 := ok.n1
    obtain ⟨tl, ha, vs, hl, pw⟩ := _root_.id mT
    have lw := paired_len pw
    have crl : (rep t.tb.length c).length ≤ 1200 := by
      rw [rep_len]
      exact Nat.mul_le_mul n4 lc'
    have memc : ∀ (j : Nat), ∀ x ∈ rep j c, x ∈ (45 :: t.tgt) := fun j x hx => mem x (List.mem_append_right _ (rep_mem hx))
    have memp : ∀ x ∈ p ++ rep t.tb.length c, x ∈ (45 :: t.tgt) := fun x hx => by
      rcases List.mem_append.mp hx with q | q
      · exact mem x (List.mem_append_left _ q)
      · exact memc _ x q
    refine ⟨_, rfl, _, rfl, a, _, 3, _, rfl, rfl, SqT.of ha, atI_nat (j := 3) rfl, _, rfl, b, _, 0, _, rfl, rfl, SqT.of hb, atI_nat (j := 0) rfl, _, rfl, b, _, 1, _, rfl, rfl, SqT.of hb, atI_nat (j := 1) rfl, ?_⟩
    refine ⟨_, rfl, a, _, 2, _, rfl, rfl, SqT.of ha, atI_nat (j := 2) rfl, tl, vs, rfl, .inl (SqL.of hl), ?_⟩
    refine ⟨_, _, rfl, rfl, (by omega), (by omega), ?_, ?_, ?_⟩
    · rw [S_len]
      show c.length < 1000000
      omega
    · rw [S_len]
      show c.length * (((vs.length : Nat) : Int)).toNat ≤ 1000000
      rw [Int.toNat_natCast, lw]
      exact Nat.le_trans (Nat.mul_le_mul lc' n4) (by decide)
    have emul : Txt.mul (S c) ((vs.length : Nat) : Int) = S (rep t.tb.length c) := by
      rw [mul_S _ (Int.natCast_nonneg _), Int.toNat_natCast, lw]
    refine ⟨_, _, rfl, rfl, ?_, ?_⟩
    · show (S p).length + (Txt.mul (S c) ((vs.length : Nat) : Int)).length ≤ sizeLine
      rw [emul, S_len, S_len, sizeLine_eq]
      omega
    have eapp : S p ++ Txt.mul (S c) ((vs.length : Nat) : Int) = S (p ++ rep t.tb.length c) := by rw [emul, S_cat]
    refine ⟨a, t, t.st, p ++ rep t.tb.length c, ?_, mT, ok, ok.st, memp, by rw [List.length_append]; omega, fun q H1 s1 hq => ?_⟩
    · show [_, _, V.str (S p ++ Txt.mul (S c) ((vs.length : Nat) : Int))] = _
      rw [eapp]
    refine ⟨q, _, rfl, SqT.of hq, rfl, _, _, rfl, _, _, rfl, rfl, ?_⟩
    obtain ⟨s0, es0⟩ : ∃ s0, s0 = runL (oD t) t.st (p ++ rep t.tb.length c) := ⟨_, rfl⟩
    obtain ⟨X, eX⟩ : ∃ X, X = outL (oD t) (oO t) t.st (p ++ rep t.tb.length c) := ⟨_, rfl⟩
    have dm : ∀ (l : Wd), (∀ x ∈ l, x ∈ (45 :: t.tgt)) → ∀ s c, s < t.tb.length → c ∈ l → oD t s c < t.tb.length := fun l h s c h1 h2 => ok.d s c h1 (h c h2)
    have fm : ∀ (l : Wd), (∀ x ∈ l, x ∈ (45 :: t.tgt)) → ∀ s c, s < t.tb.length → c ∈ l → (oO t s c).length ≤ 1 := fun l h s c h1 h2 => ok.f s c h1 (h c h2)
    have s0lt : s0 < t.tb.length := by
      rw [es0]
      exact run_lt _ (dm _ memp) ok.st
    have Xl : X.length ≤ 1260 := by
      rw [eX]
      refine Nat.le_trans (out_len _ (dm _ memp) (fm _ memp) ok.st) ?_
      rw [List.length_append]
      omega
    have rlt : ∀ j, runL (oD t) s0 (rep j c) < t.tb.length := fun j => run_lt _ (dm _ (memc j)) s0lt
    have k' := k
    clear k
    have per := period (D := oD t) (n := t.tb.length) (s0 := t.st) (p := p) (c := c) (fun i _ => run_lt _ (fun s x h1 h2 => ok.d s x h1 (by
      rcases List.mem_append.mp h2 with q | q
      · exact mem x (List.mem_append_left _ q)
      · exact memc _ x q)) ok.st)
    rw [← es0] at per ⊢
    rw [← eX]
    clear hq
    refine ⟨_, rfl, (by show 1 ≤ sizeLine; decide), fun l1 hl1 => ⟨Nat.zero_le _, fun l2 hl2 => ⟨_, _, rfl, ?_⟩⟩⟩
    have n12 : l1 ≠ l2 := fun e => by
      rw [← e, upd_same] at hl2
      cases hl2
    have sA := same_new (o := .lst [V.int (s0 : Int)]) hl1
    have sB := same_new (o := .lst []) hl2
    have h1 : (upd (upd H1 l1 (.lst [V.int (s0 : Int)])) l2 (.lst [])) l1 = some (.lst [V.int (s0 : Int)]) := sB _ _ upd_same
    have h2 : (upd (upd H1 l1 (.lst [V.int (s0 : Int)])) l2 (.lst [])) l2 = some (.lst []) := upd_same
    have sAB := s1.trans (sA.trans sB)
    have nl1 : H l1 = none := s1.free hl1
    have nl2 : H l2 = none := (s1.trans sA).free hl2
    generalize upd (upd H1 l1 (.lst [V.int (s0 : Int)])) l2 (.lst []) = H2 at sAB h1 h2 ⊢
    clear sA sB hl1 hl2
    have ha2 := sAB _ _ ha
    refine ⟨_, rfl, a, _, 2, _, rfl, rfl, SqT.of ha2, atI_nat (j := 2) rfl, tl, vs, rfl, .inl (SqL.of (sAB _ _ hl)), _, rfl, (by omega), (by omega), ?_⟩
    refine for_it walk_range (fun i σ H' => ∃ r2 r6 r7 j, σ = [some (V.ref a), some (V.ref b), r2, some (V.str (S X)), some (V.ref l1), some (V.ref l2), r6, r7] ∧ Same H H' ∧ H' l1 = some (.lst ((List.range (j + 1)).map fun i => V.int (runL (oD t) s0 (rep i c) : Nat))) ∧
      H' l2 = some (.lst ((((List.range j).map fun i => outL (oD t) (oO t) (runL (oD t) s0 (rep i c)) c).map S).map V.str)) ∧ j ≤ i ∧ ((j = i ∧ ∀ i', 1 ≤ i' → i' < j → runL (oD t) s0 (rep i' c) ≠ s0) ∨ (1 ≤ j ∧ runL (oD t) s0 (rep j c) = s0))) ?_ (fun _ _ _ _ _ => trivial) ?_ ?_
    · exact ⟨_, _, _, 0, rfl, sAB, h1, h2, Nat.le_refl _, .inl ⟨rfl, fun i' a b => by omega⟩⟩
    · rintro i x σ H3 H4 hi ⟨r2, r6, r7, j, rfl, s3, h13, h23, ji, st⟩ ⟨rfl, rfl⟩
      rw [Int.toNat_natCast, lw] at hi
      have gl : ((List.range (j + 1)).map fun i => V.int (runL (oD t) s0 (rep i c) : Nat)) = ((List.range j).map fun i => V.int (runL (oD t) s0 (rep i c) : Nat)) ++ [V.int (runL (oD t) s0 (rep j c) : Nat)] := by
        rw [List.range_succ, List.map_append]
        rfl
      have g0 : ((List.range (j + 1)).map fun i => V.int (runL (oD t) s0 (rep i c) : Nat))[0]? = some (V.int (s0 : Nat)) := by
        rw [List.getElem?_map, List.getElem?_range (by omega)]
        rfl
      have lenl : ((List.range (j + 1)).map fun i => V.int (runL (oD t) s0 (rep i c) : Nat)).length = j + 1 := by rw [List.length_map, List.length_range]
      have gj : atI ((List.range (j + 1)).map fun i => V.int (runL (oD t) s0 (rep i c) : Nat)) (-1) = some (V.int (runL (oD t) s0 (rep j c) : Nat)) := by
        rw [gl]
        exact atI_last _ _
      have hb3 := s3 _ _ hb
      have ha3 := s3 _ _ ha
      have ha3 := s3 _ _ ha
      have jle : j ≤ 4 := by omega
      have c1 : decide (V.int ((((List.range (j + 1)).map fun i => V.int (runL (oD t) s0 (rep i c) : Nat)).length : Nat) : Int) = V.int 1) = decide (j = 0) := by
        rw [lenl, dec_int, Bool.eq_iff_iff, beq_iff_eq, decide_eq_true_iff]
        omega
      by_cases hstop : 1 ≤ j ∧ runL (oD t) s0 (rep j c) = s0
      · refine st_no (ans_or (fun Q q => ⟨_, rfl, l1, _, rfl, .inl (SqL.of h13), rfl, _, rfl, by rw [c1, decide_eq_false (by omega)]; exact q⟩) (fun Q q => ⟨_, rfl, _, rfl, l1, _, _, _, rfl, rfl, SqL.of h13, gj, _, rfl, l1, _, 0, _, rfl, rfl, SqL.of h13, atI_nat (j := 0) g0, rfl, _, rfl, by rw [hstop.2]; simpa using q⟩)) ?_
        exact ⟨_, _, _, j, rfl, s3, h13, h23, by omega, .inr hstop⟩
      · have hji : j = i ∧ ∀ i', 1 ≤ i' → i' < j → runL (oD t) s0 (rep i' c) ≠ s0 := st.resolve_right hstop
        have yes : Ans (tOr (tTest (tOp rEq (tCB (rLenK K) (tCons (tVar 4) tNil)) (tC (V.int 1)))) (tTest (tOp rNe (tOp (rIxL K) (tVar 4) (tUn (rU fun i => V.int (-i)) (tC (V.int 1)))) (tOp (rIxL K) (tVar 4) (tC (V.int 0)))))) [some (V.ref a), some (V.ref b), r2, some (V.str (S X)), some (V.ref l1), some (V.ref l2), some (V.int (0 + (i : Int))), r7] H4 true := by
          by_cases j0 : j = 0
          · exact ans_or1 (fun Q q => ⟨_, rfl, l1, _, rfl, .inl (SqL.of h13), rfl, _, rfl, by rw [c1, decide_eq_true j0]; exact q⟩)
          · refine ans_or (fun Q q => ⟨_, rfl, l1, _, rfl, .inl (SqL.of h13), rfl, _, rfl, by rw [c1, decide_eq_false j0]; exact q⟩) (fun Q q => ⟨_, rfl, _, rfl, l1, _, _, _, rfl, rfl, SqL.of h13, gj, _, rfl, l1, _, 0, _, rfl, rfl, SqL.of h13, atI_nat (j := 0) g0, rfl, _, rfl, ?_⟩)
            have ne : runL (oD t) s0 (rep j c) ≠ s0 := fun e => hstop ⟨by omega, e⟩
            have : (!decide (V.int (runL (oD t) s0 (rep j c) : Nat) = V.int (s0 : Nat))) = true := by
              rw [decide_eq_false (fun e => ne (by have := V.int.inj e; omega))]
              rfl
            rw [this]
            exact q
        refine st_yes yes ?_
        refine ⟨_, rfl, _, rfl, _, rfl, l1, _, _, _, rfl, rfl, SqL.of h13, gj, _, rfl, b, _, 1, _, rfl, rfl, SqT.of hb3, atI_nat (j := 1) rfl, ?_⟩
        refine ⟨a, t, runL (oD t) s0 (rep j c), c, rfl, mT.mono s3, ok, rlt j, fun x hx => mem x (List.mem_append_right _ hx), by omega, fun q H5 s5 hq => ?_⟩
        refine ⟨q, _, rfl, SqT.of hq, rfl, _, _, rfl, _, _, rfl, rfl, ?_⟩
        have h15 := s5 _ _ h13
        have h25 := s5 _ _ h23
        refine ⟨_, rfl, .inl ⟨rfl, _, SqL.of h15⟩, _, rfl, l1, _, _, rfl, rfl, h15, ?_, ?_⟩
        · rw [lenl, sizeLine_eq]
          omega
        have h26 : (upd H5 l1 (.lst (((List.range (j + 1)).map fun i => V.int (runL (oD t) s0 (rep i c) : Nat)) ++ [V.int (runL (oD t) (runL (oD t) s0 (rep j c)) c : Nat)]))) l2 = _ := (upd_ne n12.symm).trans h25
        refine ⟨_, rfl, .inl ⟨rfl, _, SqL.of h26⟩, _, rfl, l2, _, _, rfl, rfl, h26, ?_, ?_⟩
        · rw [List.length_map, List.length_map, List.length_map, List.length_range, sizeLine_eq]
          omega
        refine ⟨_, some (V.int (0 + (i : Int))), some (V.str (S (outL (oD t) (oO t) (runL (oD t) s0 (rep j c)) c))), j + 1, rfl, same_mut (same_mut (s3.trans s5) nl1) nl2, ?_, ?_, by omega, ?_⟩
        · rw [upd_ne n12, upd_same, List.range_succ (n := j + 1), List.map_append, List.map_singleton, rep_succ', runL_app]
        · rw [upd_same, List.range_succ, List.map_append, List.map_append, List.map_append]
          rfl
        · by_cases q : runL (oD t) s0 (rep (j + 1) c) = s0
          · exact .inr ⟨by omega, q⟩
          · refine .inl ⟨by omega, fun i' i1 i2 e => ?_⟩
            by_cases z : i' = j
            · subst z
              exact hstop ⟨i1, e⟩
            · exact hji.2 i' i1 (by omega) e
    · rintro σ H3 ⟨r2, r6, r7, j, rfl, s3, h13, h23, ji, st⟩
      rw [Int.toNat_natCast, lw] at ji st
      have jle : j ≤ 4 := by omega
      have jj : 1 ≤ j ∧ runL (oD t) s0 (rep j c) = s0 := by
        rcases st with ⟨e, no⟩ | h
        · obtain ⟨t', t1, t2, e2⟩ := per
          by_cases z : t' = t.tb.length
          · rw [e, ← z]
            exact ⟨t1, e2⟩
          · exact absurd e2 (no t' t1 (by omega))
        · exact h
      have kr := k' j jj.1 (by
        show runL (oD t) (runL (oD t) t.st (p ++ rep t.tb.length c)) (rep j c) = runL (oD t) t.st (p ++ rep t.tb.length c)
        rw [← es0]
        exact jj.2)
      replace kr : ∀ b' r' H', Same H H' → RowAt H' b' r' → Eqv (X, outL (oD t) (oO t) s0 (rep j c)) r' → r'.1.length ≤ 5000 → r'.2.length ≤ 5000 → Q (.ref b') H' := by rw [es0, eX]; exact kr
      have yl := oO_len t (rep j c) s0
      have rl : (rep j c).length = j * c.length := rep_len c j
      have rl2 : j * c.length ≤ 1200 := Nat.mul_le_mul jle lc'
      have rl3 : 1 ≤ j * c.length := Nat.mul_pos jj.1 (List.length_pos_iff.mpr hc)
      refine ⟨_, rfl, ⟨_, rfl⟩, _, rfl, S [], l2, _, rfl, rfl, .inl (SqL.of h23), ?_, ?_⟩
      · rw [lens, ← List.length_flatten, out_blocks]
        show _ + _ * 0 ≤ _
        omega
      rw [join_nil, out_blocks]
      have yne : outL (oD t) (oO t) s0 (rep j c) ≠ [] := fun e => by
        rw [e, rl] at yl
        have : 0 = j * c.length := yl
        omega
      generalize outL (oD t) (oO t) s0 (rep j c) = Y at kr yl yne ⊢
      refine ⟨(by show 2 ≤ sizeLine; decide), fun z hz => ?_⟩
      have sz := same_new (o := .tup [V.str (S X), V.str (S Y)]) hz
      refine ⟨z, (X, Y), rfl, upd_same, yne, by show X.length ≤ 10000; omega, by show Y.length ≤ 10000; omega, fun b' r' H' s4 hr _ ev q1 q2 => ?_⟩
      have q1' : r'.1.length ≤ X.length := q1
      have q2' : r'.2.length ≤ Y.length := q2
      exact kr b' r' H' (s3.trans (sz.trans s4)) hr ev (by omega) (by omega)
def strip (l : Wd) : Wd := l.filter fun x => decide (x ≠ 45)
theorem join_split (l : Wd) : ∃ ys : List Wd, Txt.split (S l) (S [45]) = ys.map S ∧ ys.flatten = strip l := by
  refine ⟨_, split_S (List.cons_ne_nil _ _) rfl, ?_⟩
  exact spl_strip 45 l []
theorem strip_len (l : Wd) : (strip l).length ≤ l.length := List.length_filter_le _ _
def sp_law_answer_row : Sp := fun vs H Q _ => ∃ (b : Addr) (r : Wd × Wd), vs = [.ref b] ∧ RowAt H b r ∧ r.1.length ≤ 1000 ∧ r.2.length ≤ 1000 ∧ ∀ b' H', Same H H' → RowAt H' b' (strip r.1, strip r.2) → Q (.ref b') H'
theorem sc_law_answer_row : FnScope ["_law_row", "_law_prefix", "_law_cycle"] ["_law_row"] (defScope s_g_law_answer_row) := ⟨rfl, rfl, rfl, by decide +kernel, rfl, by decide +kernel, by decide +kernel⟩
theorem ok_law_answer_row (T : Tp K mg)  : GOk P w K mg base "_law_answer_row" 1 ["_law_row"] sp_law_answer_row := by
  refine gok_of (st := s_g_law_answer_row) T.fd_g_law_answer_row T.g_law_answer_row sc_law_answer_row (fun _ _ _ _ _ _ us hl => match us, hl with | [_], _ => rfl) (fun vs H Q E h => ?_) (fun cdv A outer s H vs Q E hr h => ?_)
  · obtain ⟨b, r, rfl, _⟩ := h
    rfl
  · obtain ⟨b, ⟨p, c⟩, rfl, hb, lp, lc, k⟩ := h
    have hu := hu_of hr
    refine ⟨_, (pss_cons (ps_par (i := 1) (j := 2) (by rfl) sc_law_answer_row.nd rfl rfl (by decide) rfl rfl (pa_cons (pe_join pe_str (pe_split (pe_ix (ix_tupK K) (pv 0) pe_int (fun _ _ => rfl)) pe_str)) (pa_cons (pe_join pe_str (pe_split (pe_ix (ix_tupK K) (pv 0) pe_int (fun _ _ => rfl)) pe_str)) pa_nil)) (by rfl))
      (pss_one (ps_ret (pe_tup (pa_cons (pv 1) (pa_cons (pv 2) pa_nil)))))), ?_⟩
    have lp' : p.length ≤ 1000 := lp
    have lc' : c.length ≤ 1000 := lc
    obtain ⟨y1, e1, f1⟩ := join_split p
    obtain ⟨y2, e2, f2⟩ := join_split c
    have g1 := strip_len p
    have g2 := strip_len c
    have lw : ∀ {z : Wd}, z.length ≤ 1000 → (S z).length + 2 ≤ sizeLine := fun {z} h => by
      rw [S_len, sizeLine_eq]
      omega
    refine ⟨⟨_, rfl⟩, _, rfl, b, _, 0, _, rfl, rfl, SqT.of hb, atI_nat (j := 0) rfl, ⟨_, rfl⟩, _, _, rfl, rfl, rfl, lw lp', ?_⟩
    rw [lit_wait, e1]
    intro l1 hl1
    have s1 := same_new (o := .lst ((y1.map S).map V.str)) hl1
    refine ⟨S [], l1, y1.map S, rfl, rfl, .inl (SqL.of upd_same), ?_, ?_⟩
    · rw [lens, ← List.length_flatten, f1]
      show _ + _ * 0 ≤ _
      omega
    rw [join_nil, f1]
    generalize upd H l1 (.lst ((y1.map S).map V.str)) = H1 at s1 ⊢
    refine ⟨⟨_, rfl⟩, _, rfl, b, _, 1, _, rfl, rfl, SqT.of (s1 _ _ hb), atI_nat (j := 1) rfl, ⟨_, rfl⟩, _, _, rfl, rfl, rfl, lw lc', ?_⟩
    show rNewStrs (Txt.split (S c) (S [45])) H1 _
    rw [e2]
    intro l2 hl2
    have s2 := same_new (o := .lst ((y2.map S).map V.str)) hl2
    refine ⟨S [], l2, y2.map S, rfl, rfl, .inl (SqL.of upd_same), ?_, ?_⟩
    · rw [lens, ← List.length_flatten, f2]
      show _ + _ * 0 ≤ _
      omega
    rw [join_nil, f2]
    refine ⟨_, _, rfl, ?_⟩
    refine ⟨_, rfl, _, rfl, (by show 2 ≤ sizeLine; decide), fun q hq => k q _ (s1.trans (s2.trans (same_new hq))) upd_same⟩
end
end K42
set_option Elab.async false
set_option linter.all false
set_option maxRecDepth 100000
namespace K42
open PySem PySem.Spec PyProof.Rows L2 SX
theorem outL_id (D : Nat → Nat → Nat) : ∀ (l : Wd) (s : Nat), outL D (fun _ c => [c]) s l = l
  | [], _ => rfl
  | x :: l, s => by
    show [x] ++ outL D (fun _ c => [c]) (D s x) l = x :: l
    rw [outL_id D l]
    rfl
theorem outL_strip (D : Nat → Nat → Nat) : ∀ (l : Wd) (s : Nat), outL D (fun _ c => if c = 45 then [] else [c]) s l = strip l
  | [], _ => rfl
  | x :: l, s => by
    show (if x = 45 then [] else [x]) ++ outL D (fun _ c => if c = 45 then [] else [c]) (D s x) l = (x :: l).filter fun x => decide (x ≠ 45)
    rw [outL_strip D l]
    unfold strip
    by_cases h : x = 45
    · rw [if_pos h, List.filter_cons, if_neg (by simp [h])]
      rfl
    · rw [if_neg h, List.filter_cons, if_pos (by simp [h])]
      rfl
theorem run0 : ∀ (l : Wd), runL (fun _ _ => 0) 0 l = 0
  | [] => rfl
  | _ :: l => run0 l
theorem eqv_strip {p c p' c' : Wd} (h : Eqv (p, c) (p', c')) : Eqv (strip p, strip c) (strip p', strip c') := by
  have a := out_sub (D := fun _ _ => 0) (f := fun _ c => if c = 45 then [] else [c]) (s0 := 0) (run0 p) (run0 c) (run0 p') (run0 c') h.1
  have b := out_sub (D := fun _ _ => 0) (f := fun _ c => if c = 45 then [] else [c]) (s0 := 0) (run0 p') (run0 c') (run0 p) (run0 c) h.2
  rw [outL_strip, outL_strip, outL_strip, outL_strip] at a b
  exact ⟨a, b⟩
theorem prio_nat {D g : Nat → Nat → Nat} {s : Nat} {w : Wd} {x : Nat} (h : prio D g s w = (x : Int)) : w ≠ [] ∧ mx D g s w = x := by
  unfold prio at h
  by_cases e : w = []
  · rw [if_pos e] at h
    omega
  · rw [if_neg e] at h
    exact ⟨e, by omega⟩
theorem prio_low {D g : Nat → Nat → Nat} {s : Nat} {w : Wd} (h : prio D g s w = -1) : w = [] := by
  unfold prio at h
  by_cases e : w = []
  · exact e
  · rw [if_neg e] at h
    omega
theorem out_mem {D : Nat → Nat → Nat} {f : Nat → Nat → Wd} {n : Nat} {A : List Nat} : ∀ (l : Wd) {s : Nat}, (∀ s c, s < n → c ∈ l → D s c < n) → (∀ s c, s < n → c ∈ l → ∀ x ∈ f s c, x ∈ A) → s < n → ∀ x ∈ outL D f s l, x ∈ A
  | [], _, _, _, _ => fun x hx => by cases hx
  | y :: l, s, h, h2, hs => fun x hx => by
    rcases List.mem_append.mp (show x ∈ f s y ++ outL D f (D s y) l from hx) with q | q
    · exact h2 s y hs List.mem_cons_self x q
    · exact out_mem l (fun s c hs hc => h s c hs (List.mem_cons_of_mem _ hc)) (fun s c hs hc => h2 s c hs (List.mem_cons_of_mem _ hc)) (h s y hs List.mem_cons_self) x q
theorem acc_of {r : Raw} (ok : RawOk r) {P C : Wd} {w : Wd × Wd} {x : Nat} (hl : runL (rD r) (runL (rD r) r.st P) C = runL (rD r) r.st P) (hx : prio (rD r) (rG r) (runL (rD r) r.st P) C = (x : Int)) (E : Eqv (P, C) w) (mem : ∀ y ∈ w.1 ++ w.2, y ∈ r.ls) : accB r w = decide (x % 2 = 0) := by
  obtain ⟨hc, hm⟩ := prio_nat hx
  have lt : ∀ i, i ≤ r.tb.length → runL (rD r) r.st (w.1 ++ rep i w.2) < r.tb.length := fun i _ => run_lt _ (fun s c h1 h2 => ok.d s c h1 (mem c (by
    rcases List.mem_append.mp h2 with q | q
    · exact List.mem_append_left _ q
    · exact List.mem_append_right _ (rep_mem q)))) ok.st
  have := acc_mx (D := rD r) (g := rG r) (p' := w.1) (c' := w.2) rfl hl hc E lt
  unfold accB
  rw [this, hm]
theorem out_eqv {D : Nat → Nat → Nat} {f : Nat → Nat → Wd} {i n j : Nat} {P C : Wd} {r : Wd × Wd} (hl : runL D (runL D i P) C = runL D i P) (E : Eqv (P, C) r) (j1 : 1 ≤ j) (hj : runL D (runL D i (r.1 ++ rep n r.2)) (rep j r.2) = runL D i (r.1 ++ rep n r.2)) :
    Eqv (outL D f i P, outL D f (runL D i P) C) (outL D f i (r.1 ++ rep n r.2), outL D f (runL D i (r.1 ++ rep n r.2)) (rep j r.2)) := by
  have E2 : Eqv (P, C) (r.1 ++ rep n r.2, rep j r.2) := E.trans (eqv_ahead r.1 r.2 n j1).symm
  exact ⟨out_sub rfl hl rfl hj E2.1, out_sub rfl hj rfl hl E2.2⟩
theorem odd_flip {x y : Nat} {op : Bool} (h : ((x : Int) + y) % 2 = 1 - (if op = true then 1 else 0)) : decide (V.bl (decide (V.bl (decide (x % 2 = 0)) = V.bl (decide (y % 2 = 0)))) = V.bl op) = true := by
  cases op with
  | true =>
    have e : (x % 2 = 0) ↔ (y % 2 = 0) := by
      have h' : ((x : Int) + y) % 2 = 0 := h
      omega
    have e2 : decide (x % 2 = 0) = decide (y % 2 = 0) := decide_eq_decide.mpr e
    rw [e2]
    simp
  | false =>
    have e : (x % 2 = 0) ↔ ¬ (y % 2 = 0) := by
      have h' : ((x : Int) + y) % 2 = 1 := h
      omega
    by_cases q : y % 2 = 0
    · have z : ¬ (x % 2 = 0) := fun w => (e.mp w) q
      rw [decide_eq_true q, decide_eq_false z]
      rfl
    · have z : x % 2 = 0 := e.mpr q
      rw [decide_eq_false q, decide_eq_true z]
      rfl
theorem even_eq {x y : Nat} (h : ((x : Int) + y) % 2 = 0) : decide (V.bl (decide (x % 2 = 0)) = V.bl (decide (y % 2 = 0))) = true := by
  have e : (x % 2 = 0) ↔ (y % 2 = 0) := by omega
  have e2 : decide (x % 2 = 0) = decide (y % 2 = 0) := decide_eq_decide.mpr e
  rw [e2]
  simp
end K42
set_option Elab.async false
set_option linter.all false
set_option maxRecDepth 100000
set_option maxHeartbeats 4000000
namespace K42
open PySem PySem.Spec PyProof.Rows L2

open SX
def sp_law_translator_fault (K : PySem.W.Frag) : Sp := fun vs H Q _ => ∃ (a b m q b' : Addr) (op : Bool) (r1 r2 : Raw) (t : Tr) (kind : Str) (r : Wd × Wd) (P C : Wd) (x y : Int), vs = [.ref a, .ref b, .ref m, .ref q, .bl op] ∧ RawV H a r1 ∧ RawV H b r2 ∧ TrV K H m t ∧ RawOk r1 ∧ RawOk r2 ∧ TrOk t ∧ t.src = r1.ls ∧ t.tgt = r2.ls ∧
  H q = some (.tup [.str kind, .ref b']) ∧ RowAt H b' r ∧ NF r ∧ Eqv (P, C) r ∧ r.1.length ≤ 60 ∧ r.2.length ≤ 300 ∧ Lasso (pdT r1 r2 t) r1.st t.st r2.st P C x y ∧ ((kind = "waits" ∧ y = -1) ∨ (kind = "verdict" ∧ ∃ X Y : Nat, x = X ∧ y = Y ∧ ((X : Int) + Y) % 2 = 1 - (if op = true then 1 else 0))) ∧
  ∀ H', Same H H' → Q (.bl true) H'
section
variable {P : Program} {w : World} {K : PySem.W.Frag} {mg : Str → Option Value} {base : Heap}
theorem sc_law_translator_fault : FnScope ["_law_one", "_law_other", "_law_told_here", "_law_fault", "_law_flip", "_law_row", "_law_output_here"] ["_law_one", "_law_other", "_law_told_here", "_law_fault", "_law_flip"] (defScope s_g_law_translator_fault) := ⟨rfl, rfl, rfl, by decide +kernel, rfl, by decide +kernel, by decide +kernel⟩
theorem ok_law_translator_fault (T : Tp K mg) (G_law_image : GOk P w K mg base "_law_image" 2 ["_law_told_here", "_law_row"] sp_law_image) (G_law_accepts : GOk P w K mg base "_law_accepts" 3 ["_law_raw_here", "_law_row"] sp_law_accepts) (M_Translator_start : MOk P w K mg base "Translator" "start" 1 ["self"] (sp_Translator_start K)) (M_Translator_states : MOk P w K mg base "Translator" "states" 1 ["self"] (sp_Translator_states K)) (M_Translator_target : MOk P w K mg base "Translator" "target" 1 ["self"] (sp_Translator_target K)) (M_Translator_source : MOk P w K mg base "Translator" "source" 1 ["self"] (sp_Translator_source K)) : GOk P w K mg base "_law_translator_fault" 4 ["_law_one", "_law_other", "_law_told_here", "_law_fault", "_law_flip"] (sp_law_translator_fault K) := by
  refine gok_of (st := s_g_law_translator_fault) T.fd_g_law_translator_fault T.g_law_translator_fault sc_law_translator_fault (fun _ _ _ _ _ _ us hl => match us, hl with | [_, _, _, _, _], _ => rfl) (fun vs H Q E h => ?_) (fun cdv A outer s H vs Q E hr h => ?_)
  · obtain ⟨a, b, m, q, b', op, r1, r2, t, kind, r, P, C, x, y, rfl, _⟩ := h
    rfl
  · obtain ⟨a, b, m, q, b', op, r1, r2, t, kind, r, P, C, x, y, rfl, mA, mB, mM, o1, o2, ot, e1, e2, hq, hb', nf, E, q1, q2, ls, hk, k⟩ := h
    have hu := hu_of hr
    refine ⟨_, (pss_cons (ps_set (i := 5) sc_law_translator_fault.nd rfl (by first | exact Or.inl rfl | exact Or.inr rfl) (pe_ix (ix_tupK K) (pv 3) pe_int (fun _ _ => rfl)))
      (pss_cons (ps_set (i := 6) sc_law_translator_fault.nd rfl (by first | exact Or.inl rfl | exact Or.inr rfl) (pe_g G_law_image (hr.mono (by decide)) (pa_cons (pe_tup (pa_cons (pe_mz M_Translator_source (hr.mono (by decide)) (pv 2)) (pa_cons (pe_mz M_Translator_target (hr.mono (by decide)) (pv 2)) (pa_cons (pe_mz M_Translator_states (hr.mono (by decide)) (pv 2)) (pa_cons (pe_mz M_Translator_start (hr.mono (by decide)) (pv 2)) pa_nil))))) (pa_cons (pv 5) pa_nil))))
      (pss_cons (ps_if (pt_cmpR op_eq (pe_ix (ix_tupK K) (pv 3) pe_int (fun _ _ => rfl)) pe_str (nomark _)) (pss_one (ps_ret (pe_cmpR op_isN (pv 6) pe_non (nomark _)))) pss_nil)
      (pss_one (ps_ret (pe_and (pe_cmpR op_notN (pv 6) pe_non (nomark _)) (pe_one (pe_cmpR op_eq (pe_cmpR op_eq (pe_g G_law_accepts (hr.mono (by decide)) (pa_cons (pv 0) (pa_cons (pv 5) pa_nil))) (pe_g G_law_accepts (hr.mono (by decide)) (pa_cons (pv 1) (pa_cons (pv 6) pa_nil))) (nomark _)) (pv 4) (nomark _))))))))), ?_⟩
    obtain ⟨_, _, hM, _⟩ := _root_.id mM
    have memr : ∀ z ∈ r.1 ++ r.2, z ∈ r1.ls := fun z hz => ls.mem z (eqv_mem E.symm hz)
    refine ⟨_, rfl, q, _, 1, _, rfl, rfl, SqT.of hq, atI_nat (j := 1) rfl, ?_⟩
    refine ⟨_, rfl, m, _, _, rfl, hM, rfl, m, t, rfl, mM, _, rfl, m, _, _, rfl, hM, rfl, m, t, rfl, mM, _, rfl, m, _, _, rfl, hM, rfl, m, t, rfl, mM, fun l H1 s1 htab => ?_⟩
    have mM1 := mM.mono s1
    obtain ⟨_, _, hM1, _⟩ := _root_.id mM1
    refine ⟨_, rfl, m, _, _, rfl, hM1, rfl, m, t, rfl, mM1, (by show 4 ≤ sizeLine; decide), fun tp htp => ?_⟩
    have s2 := same_new (o := .tup [V.str (S t.src), V.str (S t.tgt), V.ref l, V.int t.st]) htp
    have s12 := s1.trans s2
    refine ⟨_, rfl, tp, b', t, r, rfl, ⟨l, upd_same, htab.mono (fun t q => q.mono t) s2⟩, ot, s12 _ _ hb', nf.1.1, fun z hz => by rw [e1]; exact memr z hz, q1, q2, fun j j1 hj => ?_⟩
    have EO := out_eqv (D := tD t) (f := tO t) (n := t.tb.length) ls.l0 E j1 hj
    have hq2 := s12 _ _ hq
    generalize upd H1 tp (.tup [V.str (S t.src), V.str (S t.tgt), V.ref l, V.int t.st]) = H2 at s12 hq2 ⊢
    refine ⟨fun yn H3 s3 => ?_, fun yn b2 r' H3 s3 hr' ev l1 l2 => ?_⟩
    · rcases hk with ⟨rfl, _⟩ | ⟨rfl, X, Y, ex, ey, _⟩
      · refine ⟨_, rfl, q, _, 0, _, rfl, rfl, SqT.of (s3 _ _ hq2), atI_nat (j := 0) rfl, rfl, _, rfl, ?_⟩
        refine iteT ?_
        refine ⟨_, rfl, rfl, ?_⟩
        exact k H3 (s12.trans s3)
      · exfalso
        have := ls.m2
        rw [ey] at this
        exact eqv_nil EO (prio_nat this).1 yn
    · rcases hk with ⟨rfl, ey⟩ | ⟨rfl, X, Y, ex, ey, par⟩
      · exfalso
        have := ls.m2
        rw [ey] at this
        exact eqv_nil EO.symm yn (prio_low this)
      · have s23 := s12.trans s3
        refine ⟨_, rfl, q, _, 0, _, rfl, rfl, SqT.of (s3 _ _ hq2), atI_nat (j := 0) rfl, rfl, _, rfl, ?_⟩
        refine iteF ?_
        refine ⟨_, rfl, rfl, _, rfl, ?_⟩
        refine iteT ?_
        have hm1 := ls.m1
        have hm2 := ls.m2
        have hl1 := ls.l1
        have hl2 := ls.l2
        rw [ex] at hm1
        rw [ey] at hm2
        have id1 : ∀ (l : Wd) (s : Nat), outL (pdT r1 r2 t).D (pdT r1 r2 t).f1 s l = l := fun l s => outL_id _ l s
        rw [id1, id1] at hm1 hl1
        have A1 : accB r1 r = decide (X % 2 = 0) := acc_of o1 hl1 hm1 E memr
        have EO2 := EO.trans ev
        have mem2 : ∀ z ∈ r'.1 ++ r'.2, z ∈ r2.ls := fun z hz => by
          have h1 := eqv_mem EO2.symm hz
          have d : ∀ l : Wd, (∀ x ∈ l, x ∈ r1.ls) → ∀ s c, s < t.tb.length → c ∈ l → tD t s c < t.tb.length := fun l hl s c h1 h2 => ot.d s c h1 (by rw [e1]; exact hl c h2)
          have f : ∀ l : Wd, (∀ x ∈ l, x ∈ r1.ls) → ∀ s c, s < t.tb.length → c ∈ l → ∀ x ∈ tO t s c, x ∈ r2.ls := fun l hl s c h1 h2 x hx => by
            obtain ⟨_, _, _, _, h⟩ := ot.at h1 (by rw [e1]; exact hl c h2)
            rcases h with q | ⟨c', hc', q⟩
            · rw [q] at hx
              cases hx
            · rw [q] at hx
              have : x = c' := by simpa using hx
              rw [this, ← e2]
              exact hc'
          have mP : ∀ x ∈ P, x ∈ r1.ls := fun x hx => ls.mem x (List.mem_append_left _ hx)
          have mC : ∀ x ∈ C, x ∈ r1.ls := fun x hx => ls.mem x (List.mem_append_right _ hx)
          rcases List.mem_append.mp h1 with z1 | z1
          · exact out_mem P (d P mP) (f P mP) ot.st z z1
          · exact out_mem C (d C mC) (f C mC) (run_lt P (d P mP) ot.st) z z1
        have A2 : accB r2 r' = decide (Y % 2 = 0) := acc_of o2 hl2 hm2 EO2 mem2
        refine ⟨_, rfl, _, rfl, a, b', r1, r, rfl, mA.mono s23, o1, s23 _ _ hb', memr, by omega, by omega, fun H4 s4 => ?_⟩
        refine ⟨_, rfl, _, rfl, b, b2, r2, r', rfl, mB.mono (s23.trans s4), o2, s4 _ _ hr', mem2, l1, l2, fun H5 s5 => ?_⟩
        refine ⟨rfl, _, rfl, rfl, ?_⟩
        rw [A1, A2]
        show Q (V.bl (decide (V.bl (decide (V.bl (decide (X % 2 = 0)) = V.bl (decide (Y % 2 = 0)))) = V.bl op))) H5
        rw [odd_flip par]
        exact k H5 (s23.trans (s4.trans s5))
def sp_law_opponent_fault (K : PySem.W.Frag) : Sp := fun vs H Q _ => ∃ (a b m b' : Addr) (w : Bool) (r1 r2 : Raw) (t : Op) (r : Wd × Wd) (P C : Wd) (X Y : Nat), vs = [.ref a, .ref b, .ref m, .ref b'] ∧ RawV H a r1 ∧ RawV H b r2 ∧ OpV K H m t ∧ RawOk r1 ∧ RawOk r2 ∧ OpOk t ∧ t.src = r1.ls ∧ t.tgt = r2.ls ∧
  RowAt H b' r ∧ NF r ∧ Eqv (P, C) r ∧ r.1.length ≤ 60 ∧ r.2.length ≤ 300 ∧ Lasso (pdO r1 r2 t w) r1.st t.st r2.st P C X Y ∧ ((X : Int) + Y) % 2 = 0 ∧ ∀ H', Same H H' → Q (.bl true) H'
theorem sc_law_opponent_fault : FnScope ["_law_one", "_law_other", "_law_told_here", "_law_row", "_law_answers", "_law_letters_out"] ["_law_one", "_law_other", "_law_told_here", "_law_row"] (defScope s_g_law_opponent_fault) := ⟨rfl, rfl, rfl, by decide +kernel, rfl, by decide +kernel, by decide +kernel⟩
theorem ok_law_opponent_fault (T : Tp K mg) (G_law_answer_row : GOk P w K mg base "_law_answer_row" 1 ["_law_row"] sp_law_answer_row) (G_law_against : GOk P w K mg base "_law_against" 2 ["_law_told_here", "_law_row"] sp_law_against) (G_law_accepts : GOk P w K mg base "_law_accepts" 3 ["_law_raw_here", "_law_row"] sp_law_accepts) (M_Opponent_start : MOk P w K mg base "Opponent" "start" 1 ["self"] (sp_Opponent_start K)) (M_Opponent_states : MOk P w K mg base "Opponent" "states" 1 ["self"] (sp_Opponent_states K)) (M_Opponent_target : MOk P w K mg base "Opponent" "target" 1 ["self"] (sp_Opponent_target K)) (M_Opponent_source : MOk P w K mg base "Opponent" "source" 1 ["self"] (sp_Opponent_source K)) : GOk P w K mg base "_law_opponent_fault" 4 ["_law_one", "_law_other", "_law_told_here", "_law_row"] (sp_law_opponent_fault K) := by
  refine gok_of (st := s_g_law_opponent_fault) T.fd_g_law_opponent_fault T.g_law_opponent_fault sc_law_opponent_fault (fun _ _ _ _ _ _ us hl => match us, hl with | [_, _, _, _], _ => rfl) (fun vs H Q E h => ?_) (fun cdv A outer s H vs Q E hr h => ?_)
  · obtain ⟨a, b, m, b', w, r1, r2, t, r, P, C, x, y, rfl, _⟩ := h
    rfl
  · obtain ⟨a, b, m, b', wt, r1, r2, t, r, P, C, X, Y, rfl, mA, mB, mM, o1, o2, ot, e1, e2, hb', nf, E, q1, q2, ls, par, k⟩ := h
    have hu := hu_of hr
    refine ⟨_, (pss_cons (ps_set (i := 4) sc_law_opponent_fault.nd rfl (by first | exact Or.inl rfl | exact Or.inr rfl) (pe_g G_law_answer_row (hr.mono (by decide)) (pa_cons (pv 3) pa_nil)))
      (pss_cons (ps_if (pt_cmpR op_eq (pe_ix (ix_tupK K) (pv 4) pe_int (fun _ _ => rfl)) pe_str (nomark _)) (pss_one (ps_ret pe_bl)) pss_nil)
      (pss_cons (ps_set (i := 5) sc_law_opponent_fault.nd rfl (by first | exact Or.inl rfl | exact Or.inr rfl) (pe_g G_law_against (hr.mono (by decide)) (pa_cons (pe_tup (pa_cons (pe_mz M_Opponent_source (hr.mono (by decide)) (pv 2)) (pa_cons (pe_mz M_Opponent_target (hr.mono (by decide)) (pv 2)) (pa_cons (pe_mz M_Opponent_states (hr.mono (by decide)) (pv 2)) (pa_cons (pe_mz M_Opponent_start (hr.mono (by decide)) (pv 2)) pa_nil))))) (pa_cons (pv 3) pa_nil))))
      (pss_one (ps_ret (pe_cmpR op_eq (pe_g G_law_accepts (hr.mono (by decide)) (pa_cons (pv 0) (pa_cons (pv 5) pa_nil))) (pe_g G_law_accepts (hr.mono (by decide)) (pa_cons (pv 1) (pa_cons (pv 4) pa_nil))) (nomark _))))))), ?_⟩
    have memL : ∀ z ∈ r.1 ++ r.2, z ∈ 45 :: t.tgt ∧ (z = 45 ∨ z ∈ r2.ls) := fun z hz => pdO_mem e2 (ls.mem z (eqv_mem E.symm hz))
    have hl1 := ls.l1
    have hl2 := ls.l2
    have hm1 := ls.m1
    have hm2 := ls.m2
    have st2 : ∀ (l : Wd) (s : Nat), outL (pdO r1 r2 t wt).D (pdO r1 r2 t wt).f2 s l = strip l := fun l s => outL_strip _ l s
    rw [st2, st2] at hl2 hm2
    have ES : Eqv (strip P, strip C) (strip r.1, strip r.2) := eqv_strip (p := P) (c := C) (p' := r.1) (c' := r.2) E
    have sne : strip r.2 ≠ [] := eqv_nil ES (prio_nat hm2).1
    have memS : ∀ z ∈ strip r.1 ++ strip r.2, z ∈ r2.ls := fun z hz => by
      have : z ∈ r.1 ++ r.2 ∧ z ≠ 45 := by
        rcases List.mem_append.mp hz with q | q
        · obtain ⟨z1, z2⟩ := List.mem_filter.mp q
          exact ⟨List.mem_append_left _ z1, of_decide_eq_true z2⟩
        · obtain ⟨z1, z2⟩ := List.mem_filter.mp q
          exact ⟨List.mem_append_right _ z1, of_decide_eq_true z2⟩
      rcases (memL z this.1).2 with q | q
      · exact absurd q this.2
      · exact q
    refine ⟨_, rfl, b', r, rfl, hb', by omega, by omega, fun ab H1 s1 hab => ?_⟩
    refine ⟨_, rfl, ab, _, 1, _, rfl, rfl, SqT.of hab, atI_nat (j := 1) rfl, rfl, _, rfl, ?_⟩
    rw [lit_nil, dec_str, decide_eq_false sne]
    refine iteF ?_
    have mM1 := mM.mono s1
    obtain ⟨_, _, hM1, _⟩ := _root_.id mM1
    refine ⟨_, rfl, m, _, _, rfl, hM1, rfl, m, t, rfl, mM1, _, rfl, m, _, _, rfl, hM1, rfl, m, t, rfl, mM1, _, rfl, m, _, _, rfl, hM1, rfl, m, t, rfl, mM1, fun l H2 s2 htab => ?_⟩
    have mM2 := mM1.mono s2
    obtain ⟨_, _, hM2, _⟩ := _root_.id mM2
    refine ⟨_, rfl, m, _, _, rfl, hM2, rfl, m, t, rfl, mM2, (by show 4 ≤ sizeLine; decide), fun tp htp => ?_⟩
    have s3 := same_new (o := .tup [V.str (S t.src), V.str (S t.tgt), V.ref l, V.int t.st]) htp
    have s23 := s2.trans s3
    have s13 := s1.trans s23
    refine ⟨_, rfl, tp, b', t, r, rfl, ⟨l, upd_same, htab.mono s3⟩, ot, s13 _ _ hb', nf.1.1, fun z hz => (memL z hz).1, q1, q2, fun j j1 hj b2 r' H4 s4 hr' ev l1 l2 => ?_⟩
    have EO := out_eqv (D := oD t) (f := oO t) (n := t.tb.length) ls.l0 E j1 hj
    have EO2 := EO.trans ev
    have hmP : ∀ x ∈ P, x ∈ 45 :: t.tgt := fun x hx => (pdO_mem e2 (ls.mem x (List.mem_append_left _ hx))).1
    have hmC : ∀ x ∈ C, x ∈ 45 :: t.tgt := fun x hx => (pdO_mem e2 (ls.mem x (List.mem_append_right _ hx))).1
    have mem1 : ∀ z ∈ r'.1 ++ r'.2, z ∈ r1.ls := fun z hz => by
      have h1 := eqv_mem EO2.symm hz
      have d : ∀ l : Wd, (∀ x ∈ l, x ∈ 45 :: t.tgt) → ∀ s c, s < t.tb.length → c ∈ l → oD t s c < t.tb.length := fun l hl s c h1 h2 => ot.d s c h1 (hl c h2)
      have f : ∀ l : Wd, ∀ s c, s < t.tb.length → c ∈ l → ∀ x ∈ oO t s c, x ∈ r1.ls := fun l s c h1 _ x hx => by
        have : x = oL t s := by simpa [oO] using hx
        rw [this, ← e1]
        exact (ot.at h1).2.1
      rcases List.mem_append.mp h1 with z1 | z1
      · exact out_mem P (d P hmP) (f P) ot.st z z1
      · exact out_mem C (d C hmC) (f C) (run_lt P (d P hmP) ot.st) z z1
    have A1 : accB r1 r' = decide (X % 2 = 0) := acc_of o1 hl1 hm1 EO2 mem1
    have A2 : accB r2 (strip r.1, strip r.2) = decide (Y % 2 = 0) := acc_of o2 hl2 hm2 ES memS
    have s14 := s13.trans s4
    refine ⟨_, rfl, _, rfl, a, b2, r1, r', rfl, mA.mono s14, o1, hr', mem1, l1, l2, fun H5 s5 => ?_⟩
    have g1 := strip_len r.1
    have g2 := strip_len r.2
    refine ⟨_, rfl, _, rfl, b, ab, r2, (strip r.1, strip r.2), rfl, mB.mono (s14.trans s5), o2, (s23.trans (s4.trans s5)) _ _ hab, memS, by show (strip r.1).length ≤ 5000; omega, by show (strip r.2).length ≤ 5000; omega, fun H6 s6 => ?_⟩
    refine ⟨rfl, ?_⟩
    rw [A1, A2, even_eq par]
    exact k H6 (s14.trans (s5.trans s6))
end
end K42
set_option Elab.async false
set_option linter.all false
set_option maxRecDepth 100000
set_option maxHeartbeats 4000000
namespace K42
open PySem PySem.Spec PyProof.Rows L2

open SX
structure Bag (H : Hp) (b q : Addr) (ns : List Int) (i d sv : Int) : Prop where
  hb : H b = some (.lst [.ref q, .int i, .int d, .int sv])
  hq : H q = some (.lst (ns.map V.int))
  nq : q ≠ b
  i0 : 0 ≤ i
  d0 : 0 ≤ d
  s0 : 0 ≤ sv
  s1 : sv < 2147483647
def BagV (H : Hp) (b q : Addr) : Prop := ∃ ns i d sv, Bag H b q ns i d sv
theorem Bag.put {H : Hp} {b q : Addr} {ns : List Int} {i d sv i' d' sv' : Int} (B : Bag H b q ns i d sv) (h1 : 0 ≤ i') (h2 : 0 ≤ d') (h3 : 0 ≤ sv') (h4 : sv' < 2147483647) : Bag (upd H b (.lst [.ref q, .int i', .int d', .int sv'])) b q ns i' d' sv' :=
  ⟨upd_same, by rw [upd_ne B.nq]; exact B.hq, B.nq, h1, h2, h3, h4⟩
theorem BagV.mono {H H' : Hp} {b q : Addr} (s : Same H H') (h : BagV H b q) : BagV H' b q := let ⟨ns, i, d, sv, B⟩ := h; ⟨ns, i, d, sv, s _ _ B.hb, s _ _ B.hq, B.nq, B.i0, B.d0, B.s0, B.s1⟩
theorem BagV.lst {H : Hp} {b q : Addr} (h : BagV H b q) : ∃ L, H b = some (.lst L) := let ⟨_, _, _, _, B⟩ := h; ⟨_, B.hb⟩
theorem sql_mono {K : PySem.W.Frag} {H H' : Hp} {a : Addr} {xs : List V} (s : Same H H') (h : SqL K H a xs) : SqL K H' a xs := by
  rcases h with (h | ⟨o, h⟩) | h
  · exact .inl (.inl (s _ _ h))
  · exact .inl (.inr ⟨o, s _ _ h⟩)
  · exact .inr h
def sp_law_bag (K : PySem.W.Frag) : Sp := fun vs H Q _ => ∃ (a : Addr) (ns : List Int), vs = [.ref a] ∧ SqL K H a (ns.map V.int) ∧ ∀ b q H', Same H H' → BagV H' b q → Q (.ref b) H'
theorem cut_ints (ns : List Int) (lo hi : Option Int) : ∃ ms : List Int, cutV (ns.map V.int) lo hi = ms.map V.int := by
  unfold cutV
  rw [← List.map_drop, ← List.map_take]
  exact ⟨_, rfl⟩
section
variable {P : Program} {w : World} {K : PySem.W.Frag} {mg : Str → Option Value} {base : Heap}
theorem sc_law_bag : FnScope ["_law_script", "_law_salt", "_law_cell"] ["_law_script"] (defScope s_g_law_bag) := ⟨rfl, rfl, rfl, by decide +kernel, rfl, by decide +kernel, by decide +kernel⟩
theorem ok_law_bag (T : Tp K mg)  : GOk P w K mg base "_law_bag" 1 ["_law_script"] (sp_law_bag K) := by
  refine gok_of (st := s_g_law_bag) T.fd_g_law_bag T.g_law_bag sc_law_bag (fun _ _ _ _ _ _ us hl => match us, hl with | [_], _ => rfl) (fun vs H Q E h => ?_) (fun cdv A outer s H vs Q E hr h => ?_)
  · obtain ⟨a, ns, rfl, _⟩ := h
    rfl
  · obtain ⟨a, ns, rfl, ha, k⟩ := h
    have hu := hu_of hr
    refine ⟨_, (pss_cons (ps_set (i := 1) sc_law_bag.nd rfl (by first | exact Or.inl rfl | exact Or.inr rfl) pe_int)
      (pss_cons (ps_for PassesOwn.never rfl (pi_list (pe_slice sl_list (pv 0) po_none (po_some pe_int))) (pg_name (i := 2) sc_law_bag.nd rfl (by first | exact Or.inl rfl | exact Or.inr rfl)) (pss_one (ps_set (i := 1) sc_law_bag.nd rfl (by first | exact Or.inl rfl | exact Or.inr rfl) (pe_op op_mod (pe_op op_add (pe_op op_add (pe_op op_mul (pv 1) pe_int) (pe_op op_mod (pv 2) pe_int)) pe_int) pe_int))))
      (pss_one (ps_ret (pe_lst (pa_cons (pe_callTy (list_ofK K) (by rfl) T.b_list (by decide +kernel) (pa_cons (pe_slice sl_list (pv 0) po_none (po_some pe_int)) pa_nil)) (pa_cons pe_int (pa_cons pe_int (pa_cons (pv 1) pa_nil))))))))), ?_⟩
    obtain ⟨ms, ems⟩ := cut_ints ns none (some 63)
    refine ⟨_, rfl, _, rfl, a, _, rfl, ha, fun p hp => ?_⟩
    have s1 := same_new (o := .lst (cutV (ns.map V.int) none (some 63))) hp
    have hp1 : (upd H p (.lst (cutV (ns.map V.int) none (some 63)))) p = some (.lst (ms.map V.int)) := by rw [upd_same, ems]
    generalize upd H p (.lst (cutV (ns.map V.int) none (some 63))) = H1 at s1 hp1 ⊢
    refine ⟨p, rfl, ⟨_, SqL.of hp1⟩, ?_⟩
    refine for_it (walk_list (xs := ms.map V.int)) (fun i σ H' => ∃ r2 sv, σ = [some (V.ref a), some (V.int sv), r2] ∧ 0 ≤ sv ∧ sv < 2147483647 ∧ H' = H1) ⟨_, 9490, rfl, by decide, by decide, rfl⟩ (fun i σ H' _ ⟨_, _, _, _, _, e⟩ => by rw [e]; exact SqL.of hp1) ?_ ?_
    · rintro i x σ H2 H3 hi ⟨r2, sv, rfl, h0, h1, rfl⟩ ⟨rfl, hx⟩
      rw [List.getElem?_map] at hx
      obtain ⟨n, _, rfl⟩ := Option.map_eq_some_iff.mp hx
      refine ⟨_, rfl, _, _, rfl, rfl, .inr ⟨by decide, by decide⟩, _, rfl, _, _, rfl, rfl, (by show (0 : Int) < 2147483629; decide), _, _, rfl, rfl, _, _, rfl, rfl, _, _, rfl, rfl, (by show (0 : Int) < 2147483647; decide), _, _, rfl, ?_, ?_, rfl⟩
      · exact Int.emod_nonneg _ (by decide)
      · exact Int.emod_lt_of_pos _ (by decide)
    · rintro σ H2 ⟨r2, sv, rfl, h0, h1, rfl⟩
      refine ⟨_, rfl, _, rfl, a, _, rfl, sql_mono s1 ha, fun p2 hp2 => ?_⟩
      have s2 := same_new (o := .lst (cutV (ns.map V.int) none (some 63))) hp2
      refine ⟨p2, _, rfl, .inl (SqL.of upd_same), fun p3 hp3 => ?_⟩
      have s3 := same_new (o := .lst (cutV (ns.map V.int) none (some 63))) hp3
      refine ⟨_, rfl, (by show 4 ≤ sizeLine; decide), fun b hb => ?_⟩
      have s4 := same_new (o := .lst [V.ref p3, V.int 0, V.int 0, V.int sv]) hb
      refine k b p3 _ (s1.trans (s2.trans (s3.trans s4))) ⟨ms, 0, 0, sv, upd_same, ?_, (ne_of_none upd_same hb), by decide, by decide, h0, h1⟩
      rw [← ems]
      exact s4 _ _ upd_same
def sp_law_pull : Sp := fun vs H Q _ => ∃ (b q : Addr) (n : Int), vs = [.ref b, .int n] ∧ BagV H b q ∧ 1 ≤ n ∧ n ≤ 1000 ∧ ∀ (k : Nat) H', (k : Int) < n → SameX b H H' → BagV H' b q → Q (.int k) H'
theorem sc_law_pull : FnScope ["_law_bag_here", "_law_count", "_law_cell", "_law_digit", "_law_mixed"] ["_law_bag_here", "_law_count"] (defScope s_g_law_pull) := ⟨rfl, rfl, rfl, by decide +kernel, rfl, by decide +kernel, by decide +kernel⟩
theorem ok_law_pull (T : Tp K mg)  : GOk P w K mg base "_law_pull" 1 ["_law_bag_here", "_law_count"] sp_law_pull := by
  refine gok_of (st := s_g_law_pull) T.fd_g_law_pull T.g_law_pull sc_law_pull (fun _ _ _ _ _ _ us hl => match us, hl with | [_, _], _ => rfl) (fun vs H Q E h => ?_) (fun cdv A outer s H vs Q E hr h => ?_)
  · obtain ⟨b, q, n, rfl, _⟩ := h
    rfl
  · obtain ⟨b, q, n, rfl, ⟨ns, i, d, sv, B⟩, n1, n2, k⟩ := h
    have hu := hu_of hr
    refine ⟨_, (Evl.pss_cut (ps_if (PW.pt (pw_and (pt_cmpR op_lt (pe_ix (ix_listK K) (pv 0) pe_int (fun _ _ => rfl)) (pv 1) (nomark _)) (pw_and1 (pt_cmpR op_lt (pe_ix (ix_listK K) (pv 0) pe_int (fun _ _ => rfl)) (pe_callB (len_seqK K) (by rfl) T.b_len PySem.boot_len (pa_cons (pe_ix (ix_listK K) (pv 0) pe_int (fun _ _ => rfl)) pa_nil)) (nomark _))))) (pss_cons (ps_set (i := 2) sc_law_pull.nd rfl (by first | exact Or.inl rfl | exact Or.inr rfl) (pe_ix (ix_listK K) (pe_ix (ix_listK K) (pv 0) pe_int (fun _ _ => rfl)) (pe_ix (ix_listK K) (pv 0) pe_int (fun _ _ => rfl)) (fun _ _ => rfl)))
      (pss_cons (ps_asg (pe_op op_add (pe_ix (ix_listK K) (pv 0) pe_int (fun _ _ => rfl)) pe_int) (pg_sub (pv 0) pe_int set_list))
      (pss_cons (ps_asg pe_int (pg_sub (pv 0) pe_int set_list))
      (pss_one (ps_if (pt_cmpR op_ge (pv 2) (pe_op op_pow pe_int pe_int) (nomark _)) (pss_one (ps_asg (pv 2) (pg_sub (pv 0) pe_int set_list))) (pss_one (ps_asg (pe_op op_mod (pe_op op_add (pe_op op_add (pe_op op_mul (pe_ix (ix_listK K) (pv 0) pe_int (fun _ _ => rfl)) pe_int) (pe_op op_mul (pe_op op_mod (pv 2) pe_int) pe_int)) pe_int) pe_int) (pg_sub (pv 0) pe_int set_list)))))))) pss_nil)
      (pss_cons (ps_if (pt_cmpR op_ge (pe_ix (ix_listK K) (pv 0) pe_int (fun _ _ => rfl)) (pv 1) (nomark _)) (pss_cons (ps_set (i := 3) sc_law_pull.nd rfl (by first | exact Or.inl rfl | exact Or.inr rfl) (pe_op op_mod (pe_ix (ix_listK K) (pv 0) pe_int (fun _ _ => rfl)) (pv 1)))
      (pss_cons (ps_asg (pe_op op_fdiv (pe_ix (ix_listK K) (pv 0) pe_int (fun _ _ => rfl)) (pv 1)) (pg_sub (pv 0) pe_int set_list))
      (pss_one (ps_ret (pv 3))))) pss_nil)
      (pss_cons (ps_set (i := 4) sc_law_pull.nd rfl (by first | exact Or.inl rfl | exact Or.inr rfl) (pe_op op_add (pe_op op_add (pe_op op_mul (pe_op op_mod (pe_op op_mul (pe_ix (ix_listK K) (pv 0) pe_int (fun _ _ => rfl)) (pe_ix (ix_listK K) (pv 0) pe_int (fun _ _ => rfl))) pe_int) pe_int) (pe_op op_mul (pe_ix (ix_listK K) (pv 0) pe_int (fun _ _ => rfl)) pe_int)) pe_int))
      (pss_cons (ps_asg (pe_op op_mod (pv 4) pe_int) (pg_sub (pv 0) pe_int set_list))
      (pss_one (ps_ret (pe_op op_mod (pe_op op_add (pe_op op_fdiv (pe_ix (ix_listK K) (pv 0) pe_int (fun _ _ => rfl)) pe_int) (pe_op op_mul (pe_op op_mod (pe_ix (ix_listK K) (pv 0) pe_int (fun _ _ => rfl)) pe_int) pe_int)) (pv 1)))))))), ?_⟩
    have modk : ∀ x : Int, ∃ k : Nat, x % n = (k : Int) ∧ (k : Int) < n := fun x => ⟨(x % n).toNat, by
      have := Int.emod_nonneg x (show n ≠ 0 by omega)
      omega, by
      have := Int.emod_nonneg x (show n ≠ 0 by omega)
      have := Int.emod_lt_of_pos x (show 0 < n by omega)
      omega⟩
    refine ⟨fun σ' H' => ∃ r2 i d sv, σ' = [some (V.ref b), some (V.int n), r2, none, none] ∧ SameX b H H' ∧ Bag H' b q ns i d sv, ?_, ?_⟩
    · refine ⟨_, rfl, b, _, 2, _, rfl, rfl, SqL.of B.hb, atI_nat (j := 2) rfl, _, rfl, _, _, rfl, rfl, _, rfl, ?_⟩
      refine ite2 (fun _ => ?_) (fun _ => iteF ⟨_, i, d, sv, rfl, .refl _ _, B⟩)
      refine ⟨_, rfl, b, _, 1, _, rfl, rfl, SqL.of B.hb, atI_nat (j := 1) rfl, _, rfl, b, _, 0, _, rfl, rfl, SqL.of B.hb, atI_nat (j := 0) rfl, q, _, rfl, .inl (SqL.of B.hq), _, _, rfl, rfl, _, rfl, ?_⟩
      refine ite2 (fun hlt => ?_) (fun _ => ⟨_, i, d, sv, rfl, .refl _ _, B⟩)
      have hlt' : i < ((ns.map V.int).length : Int) := of_decide_eq_true hlt
      have i0 := B.i0
      obtain ⟨j, rfl⟩ : ∃ j : Nat, i = (j : Int) := ⟨i.toNat, by omega⟩
      have jl : j < (ns.map V.int).length := by omega
      have hj : (ns.map V.int)[j]? = some ((ns.map V.int)[j]'jl) := List.getElem?_eq_getElem jl
      have hj2 := hj
      rw [List.getElem?_map] at hj2
      obtain ⟨cell, hcell, ecell⟩ := Option.map_eq_some_iff.mp hj2
      rw [← ecell] at hj
      refine ⟨_, rfl, b, _, 0, _, rfl, rfl, SqL.of B.hb, atI_nat (j := 0) rfl, _, rfl, b, _, 1, _, rfl, rfl, SqL.of B.hb, atI_nat (j := 1) rfl, q, _, j, _, rfl, rfl, SqL.of B.hq, atI_nat hj, ?_⟩
      refine ⟨_, rfl, b, _, 1, _, rfl, rfl, SqL.of B.hb, atI_nat (j := 1) rfl, _, _, rfl, rfl, _, rfl, b, _, 1, 1, rfl, rfl, B.hb, rfl, ?_⟩
      have B1 : Bag (upd H b (.lst [.ref q, .int ((j : Int) + 1), .int d, .int sv])) b q ns ((j : Int) + 1) d sv := B.put (by omega) B.d0 B.s0 B.s1
      refine ⟨_, rfl, b, _, 2, 2, rfl, rfl, B1.hb, rfl, ?_⟩
      have B2 : Bag (upd (upd H b (.lst [.ref q, .int ((j : Int) + 1), .int d, .int sv])) b (.lst [.ref q, .int ((j : Int) + 1), .int 0, .int sv])) b q ns ((j : Int) + 1) 0 sv := B1.put (by omega) (by decide) B.s0 B.s1
      have x2 : SameX b H (upd (upd H b (.lst [.ref q, .int ((j : Int) + 1), .int d, .int sv])) b (.lst [.ref q, .int ((j : Int) + 1), .int 0, .int sv])) := SameX.put (SameX.put (.refl _ _))
      refine ⟨_, rfl, _, _, rfl, rfl, ⟨by decide, by decide, by decide⟩, _, _, rfl, rfl, _, rfl, ?_⟩
      refine ite2 (fun hge => ?_) (fun _ => ?_)
      · have hge' : (10 : Int) ^ (18 : Int).toNat ≤ cell := of_decide_eq_true hge
        have h18 : (0 : Int) ≤ (10 : Int) ^ (18 : Int).toNat := by decide
        refine ⟨_, rfl, _, rfl, b, _, 2, 2, rfl, rfl, B2.hb, rfl, ?_⟩
        exact ⟨_, _, _, _, rfl, SameX.put x2, B2.put (by omega) (by omega) B.s0 B.s1⟩
      · refine ⟨_, rfl, b, _, 3, _, rfl, rfl, SqL.of B2.hb, atI_nat (j := 3) rfl, _, _, rfl, rfl, .inr ⟨by decide, by decide⟩, _, rfl, _, _, rfl, rfl, (by show (0 : Int) < 1000000007; decide), _, _, rfl, rfl, .inr ⟨by decide, by decide⟩, _, _, rfl, rfl, _, _, rfl, rfl, _, _, rfl, rfl, (by show (0 : Int) < 2147483647; decide), ?_⟩
        refine ⟨_, rfl, b, _, 3, 3, rfl, rfl, B2.hb, rfl, ?_⟩
        exact ⟨_, _, _, _, rfl, SameX.put x2, B2.put (by omega) (by decide) (Int.emod_nonneg _ (by decide)) (Int.emod_lt_of_pos _ (by decide))⟩
    rintro σ' H1 ⟨r2, i, d, sv, rfl, x1, B1⟩
    have n0 : (0 : Int) < n := by omega
    refine ⟨_, rfl, b, _, 2, _, rfl, rfl, SqL.of B1.hb, atI_nat (j := 2) rfl, _, rfl, _, _, rfl, rfl, _, rfl, ?_⟩
    refine ite2 (fun _ => ?_) (fun _ => ?_)
    · refine ⟨_, rfl, b, _, 2, _, rfl, rfl, SqL.of B1.hb, atI_nat (j := 2) rfl, _, rfl, _, _, rfl, rfl, n0, ?_⟩
      refine ⟨_, rfl, b, _, 2, _, rfl, rfl, SqL.of B1.hb, atI_nat (j := 2) rfl, _, rfl, _, _, rfl, rfl, ⟨n0, by omega⟩, _, rfl, b, _, 2, 2, rfl, rfl, B1.hb, rfl, ?_⟩
      obtain ⟨k0, e0, l0⟩ := modk d
      refine ⟨_, rfl, ?_⟩
      show Q (V.int (d % n)) _
      rw [e0]
      exact k k0 _ l0 (SameX.put x1) ⟨ns, _, _, _, B1.put B1.i0 (Int.ediv_nonneg B1.d0 (by omega)) B1.s0 B1.s1⟩
    · have s0 := B1.s0
      have s1 := B1.s1
      refine ⟨_, rfl, b, _, 3, _, rfl, rfl, SqL.of B1.hb, atI_nat (j := 3) rfl, _, rfl, b, _, 3, _, rfl, rfl, SqL.of B1.hb, atI_nat (j := 3) rfl, _, _, rfl, rfl, .inl ⟨by omega, by omega⟩, _, _, rfl, rfl, (by show (0 : Int) < 2147483629; decide), _, _, rfl, rfl, .inr ⟨by decide, by decide⟩, _, rfl, b, _, 3, _, rfl, rfl, SqL.of B1.hb, atI_nat (j := 3) rfl, _, _, rfl, rfl, .inr ⟨by decide, by decide⟩, _, _, rfl, rfl, _, _, rfl, rfl, ?_⟩
      refine ⟨_, rfl, _, _, rfl, rfl, (by show (0 : Int) < 2147483647; decide), _, rfl, b, _, 3, 3, rfl, rfl, B1.hb, rfl, ?_⟩
      have B2 : Bag (upd H1 b (.lst [.ref q, .int i, .int d, .int ((sv * sv % 2147483629 * 16807 + sv * 31 + 12345) % 2147483647)])) b q ns i d ((sv * sv % 2147483629 * 16807 + sv * 31 + 12345) % 2147483647) := B1.put B1.i0 B1.d0 (Int.emod_nonneg _ (by decide)) (Int.emod_lt_of_pos _ (by decide))
      have x2 : SameX b H (upd H1 b (.lst [.ref q, .int i, .int d, .int ((sv * sv % 2147483629 * 16807 + sv * 31 + 12345) % 2147483647)])) := SameX.put x1
      refine ⟨_, rfl, b, _, 3, _, rfl, rfl, SqL.of B2.hb, atI_nat (j := 3) rfl, _, _, rfl, rfl, ⟨by decide, by decide⟩, _, rfl, b, _, 3, _, rfl, rfl, SqL.of B2.hb, atI_nat (j := 3) rfl, _, _, rfl, rfl, (by show (0 : Int) < 4093; decide), _, _, rfl, rfl, .inr ⟨by decide, by decide⟩, _, _, rfl, rfl, _, rfl, _, _, rfl, rfl, n0, ?_⟩
      obtain ⟨k0, e0, l0⟩ := modk (((sv * sv % 2147483629 * 16807 + sv * 31 + 12345) % 2147483647) / 61 + ((sv * sv % 2147483629 * 16807 + sv * 31 + 12345) % 2147483647) % 4093 * 29)
      have fin := k k0 _ l0 x2 ⟨ns, _, _, _, B2⟩
      rw [← e0] at fin
      exact fin
end
end K42
set_option Elab.async false
set_option linter.all false
set_option maxRecDepth 100000
set_option maxHeartbeats 4000000
namespace K42
open PySem PySem.Spec PyProof.Rows L2

open SX
theorem SameX.trans {b : Addr} {H H1 H2 : Hp} (x : SameX b H H1) (y : SameX b H1 H2) : SameX b H H2 := fun c o n h => y c o n (x c o n h)
theorem SameX.of {b : Addr} {H H' : Hp} (s : Same H H') : SameX b H H' := (SameX.refl b H).then s
theorem SameX.tsB {b : Addr} {q : Addr} {H H1 : Hp} (x : SameX b H H1) (B : BagV H b q) : TSame H H1 := let ⟨_, h⟩ := B.lst; x.ts h fun _ e => nomatch e
theorem BagV.ne {H : Hp} {b q p : Addr} (B : BagV H b q) (h : H p = none) : p ≠ b := fun e => by
  obtain ⟨_, hb⟩ := B.lst
  rw [e, hb] at h
  cases h
theorem BagV.neT {H : Hp} {b q p : Addr} {xs : List V} (B : BagV H b q) (h : H p = some (.tup xs)) : p ≠ b := fun e => by
  obtain ⟨_, hb⟩ := B.lst
  rw [e, hb] at h
  cases h
theorem BagV.neq {H : Hp} {b q p : Addr} (B : BagV H b q) (h : H p = none) : p ≠ q := fun e => by
  obtain ⟨_, _, _, _, B⟩ := B
  rw [e, B.hq] at h
  cases h
theorem BagV.other {H : Hp} {b q p : Addr} {o : HO} (B : BagV H b q) (n : p ≠ b) (n2 : p ≠ q) : BagV (upd H p o) b q := by
  obtain ⟨ns, i, d, sv, B⟩ := B
  exact ⟨ns, i, d, sv, by rw [upd_ne n.symm]; exact B.hb, by rw [upd_ne n2.symm]; exact B.hq, B.nq, B.i0, B.d0, B.s0, B.s1⟩
def sp_law_of : Sp := fun vs H Q _ => ∃ (b bq p : Addr) (xs : List V), vs = [.ref b, .ref p] ∧ BagV H b bq ∧ H p = some (.lst xs) ∧ p ≠ b ∧ 1 ≤ xs.length ∧ xs.length ≤ 100 ∧ ∀ v H', v ∈ xs → SameX b H H' → BagV H' b bq → Q v H'
section
variable {P : Program} {w : World} {K : PySem.W.Frag} {mg : Str → Option Value} {base : Heap}
theorem sc_law_of : FnScope ["_law_bag_here", "_law_items"] ["_law_bag_here", "_law_items"] (defScope s_g_law_of) := ⟨rfl, rfl, rfl, by decide +kernel, rfl, by decide +kernel, by decide +kernel⟩
theorem ok_law_of (T : Tp K mg) (G_law_pull : GOk P w K mg base "_law_pull" 1 ["_law_bag_here", "_law_count"] sp_law_pull) : GOk P w K mg base "_law_of" 2 ["_law_bag_here", "_law_items"] sp_law_of := by
  refine gok_of (st := s_g_law_of) T.fd_g_law_of T.g_law_of sc_law_of (fun _ _ _ _ _ _ us hl => match us, hl with | [_, _], _ => rfl) (fun vs H Q E h => ?_) (fun cdv A outer s H vs Q E hr h => ?_)
  · obtain ⟨b, bq, p, xs, rfl, _⟩ := h
    rfl
  · obtain ⟨b, bq, p, xs, rfl, B, hp, np, x1, x2, k⟩ := h
    have hu := hu_of hr
    refine ⟨_, (pss_one (ps_ret (pe_ix (ix_listK K) (pv 1) (pe_g G_law_pull (hr.mono (by decide)) (pa_cons (pv 0) (pa_cons (pe_callB (len_seqK K) (by rfl) T.b_len PySem.boot_len (pa_cons (pv 1) pa_nil)) pa_nil))) (fun _ _ => rfl)))), ?_⟩
    refine ⟨_, rfl, _, rfl, _, rfl, p, xs, rfl, .inl (SqL.of hp), b, bq, _, rfl, B, by omega, by omega, fun j H' lt sx bg => ?_⟩
    have jl : j < xs.length := by omega
    exact ⟨p, xs, j, _, rfl, rfl, SqL.of (sx _ _ np hp), atI_nat (List.getElem?_eq_getElem jl), k _ H' (List.getElem_mem jl) sx bg⟩
theorem Alpha.mk' {ls : Wd} (h1 : 1 ≤ ls.length) (h2 : ls.length ≤ 3) (h3 : ∀ c ∈ ls, c ∈ lowerL) (h4 : ls.Pairwise (· < ·)) : Alpha ls := by
  refine ⟨h1, h2, h3, fun i x y hx hy => ?_⟩
  obtain ⟨lx, ex⟩ := List.getElem?_eq_some_iff.mp hx
  obtain ⟨ly, ey⟩ := List.getElem?_eq_some_iff.mp hy
  rw [← ex, ← ey]
  exact List.pairwise_iff_getElem.mp h4 i (i + 1) lx ly (by omega)
theorem al_ab : Alpha [97, 98] := .mk' (by decide) (by decide) (by decide) (by decide)
theorem al_a : Alpha [97] := .mk' (by decide) (by decide) (by decide) (by decide)
theorem al_abc : Alpha [97, 98, 99] := .mk' (by decide) (by decide) (by decide) (by decide)
theorem al_bx : Alpha [98, 120] := .mk' (by decide) (by decide) (by decide) (by decide)
theorem al_mnz : Alpha [109, 110, 122] := .mk' (by decide) (by decide) (by decide) (by decide)
def menuV : List V := [.str "ab", .str "a", .str "abc", .str "bx", .str "ab", .str "mnz"]
theorem menu_alpha {v : V} (h : v ∈ menuV) : ∃ ls, v = .str (S ls) ∧ Alpha ls := by
  unfold menuV at h
  rcases List.mem_cons.mp h with e | h
  · exact ⟨_, e, al_ab⟩
  rcases List.mem_cons.mp h with e | h
  · exact ⟨_, e, al_a⟩
  rcases List.mem_cons.mp h with e | h
  · exact ⟨_, e, al_abc⟩
  rcases List.mem_cons.mp h with e | h
  · exact ⟨_, e, al_bx⟩
  rcases List.mem_cons.mp h with e | h
  · exact ⟨_, e, al_ab⟩
  rcases List.mem_cons.mp h with e | h
  · exact ⟨_, e, al_mnz⟩
  cases h
def sp_law_letters : Sp := fun vs H Q _ => ∃ b bq : Addr, vs = [.ref b] ∧ BagV H b bq ∧ ∀ ls H', Alpha ls → SameX b H H' → BagV H' b bq → Q (.str (S ls)) H'
theorem sc_law_letters : FnScope ["_law_bag_here"] ["_law_bag_here"] (defScope s_g_law_letters) := ⟨rfl, rfl, rfl, by decide +kernel, rfl, by decide +kernel, by decide +kernel⟩
theorem ok_law_letters (T : Tp K mg) (G_law_of : GOk P w K mg base "_law_of" 2 ["_law_bag_here", "_law_items"] sp_law_of) : GOk P w K mg base "_law_letters" 3 ["_law_bag_here"] sp_law_letters := by
  refine gok_of (st := s_g_law_letters) T.fd_g_law_letters T.g_law_letters sc_law_letters (fun _ _ _ _ _ _ us hl => match us, hl with | [_], _ => rfl) (fun vs H Q E h => ?_) (fun cdv A outer s H vs Q E hr h => ?_)
  · obtain ⟨b, bq, rfl, _⟩ := h
    rfl
  · obtain ⟨b, bq, rfl, B, k⟩ := h
    have hu := hu_of hr
    refine ⟨_, (pss_one (ps_ret (pe_g G_law_of (hr.mono (by decide)) (pa_cons (pv 0) (pa_cons (pe_lst (pa_cons pe_str (pa_cons pe_str (pa_cons pe_str (pa_cons pe_str (pa_cons pe_str (pa_cons pe_str pa_nil))))))) pa_nil))))), ?_⟩
    refine ⟨_, rfl, (by show 6 ≤ sizeLine; decide), fun p hp => ?_⟩
    have s1 := same_new (o := .lst menuV) hp
    refine ⟨b, bq, p, menuV, rfl, B.mono s1, upd_same, B.ne hp, by decide, by decide, fun v H' hv sx bg => ?_⟩
    obtain ⟨ls, rfl, al⟩ := menu_alpha hv
    exact k ls H' al ((SameX.of s1).trans sx) bg
theorem TupOf.monoX {α : Type} {F : Hp → V → α → Prop} (hF : ∀ {H H' : Hp} {v : V} {e : α}, TSame H H' → F H v e → F H' v e) {H H' : Hp} {v : V} {xs : List α} (t : TSame H H') (h : TupOf (F H) H v xs) : TupOf (F H') H' v xs := TupOf.monoT (F := F) hF t h
def sp_law_raw : Sp := fun vs H Q _ => ∃ (b bq : Addr) (ls : Wd), vs = [.ref b, .str (S ls), .int 3, .int 3] ∧ BagV H b bq ∧ Alpha ls ∧ ∀ a (r : Raw) H', r.ls = ls → RawOk r → RawV H' a r → SameX b H H' → BagV H' b bq → Q (.ref a) H'
theorem sc_law_raw : FnScope ["_law_bag_here", "_law_letters_here", "_law_most", "_law_top", "_law_count", "_law_states", "_law_k", "_law_letter"] ["_law_bag_here", "_law_letters_here", "_law_most", "_law_top"] (defScope s_g_law_raw) := ⟨rfl, rfl, rfl, by decide +kernel, rfl, by decide +kernel, by decide +kernel⟩
theorem ok_law_raw (T : Tp K mg) (G_law_pull : GOk P w K mg base "_law_pull" 1 ["_law_bag_here", "_law_count"] sp_law_pull) : GOk P w K mg base "_law_raw" 2 ["_law_bag_here", "_law_letters_here", "_law_most", "_law_top"] sp_law_raw := by
  refine gok_of (st := s_g_law_raw) T.fd_g_law_raw T.g_law_raw sc_law_raw (fun _ _ _ _ _ _ us hl => match us, hl with | [_, _, _, _], _ => rfl) (fun vs H Q E h => ?_) (fun cdv A outer s H vs Q E hr h => ?_)
  · obtain ⟨b, bq, ls, rfl, _⟩ := h
    rfl
  · obtain ⟨b, bq, ls, rfl, B, al, k⟩ := h
    have hu := hu_of hr
    refine ⟨_, (pss_cons (ps_asg (pe_tup (pa_cons (pe_op op_add pe_int (pe_g G_law_pull (hr.mono (by decide)) (pa_cons (pv 0) (pa_cons (pv 2) pa_nil)))) (pa_cons (pe_lst pa_nil) pa_nil))) (pg_tupK K (n := 2) (by rfl) (pgs_cons (pg_name (i := 4) sc_law_raw.nd rfl (by first | exact Or.inl rfl | exact Or.inr rfl)) (pgs_cons (pg_name (i := 5) sc_law_raw.nd rfl (by first | exact Or.inl rfl | exact Or.inr rfl)) pgs_nil))))
      (pss_cons (ps_for PassesOwn.never rfl (pi_range1 (by rfl) T.b_range (pa_cons (pv 4) pa_nil)) (pg_name (i := 6) sc_law_raw.nd rfl (by first | exact Or.inl rfl | exact Or.inr rfl)) (pss_one (ps_expr (pe_bm PySem.F.plainAttrs_list PySem.F.slot_list_append PySem.F.type_list_append mt_append (pv 5) (pa_cons (pe_callTy (tuple_ofK K) (by rfl) T.b_tuple (by decide +kernel) (pa_cons (pe_lc (own := [("_law_letter", 7)]) (by rfl) sc_law_raw.nd (pi_str (pv 1)) (blkOk_by (own := [("_law_letter", 7)]) (N := ["_law_bag_here", "_law_letters_here", "_law_most", "_law_top", "_law_count", "_law_states", "_law_k", "_law_letter"]) (sc := defScope s_g_law_raw) (by decide +kernel)) (fun _ _ _ _ _ => (pg_name (i := 7) sc_law_raw.nd rfl (by first | exact Or.inl rfl | exact Or.inr rfl))) (fun _ _ _ _ _ => pts_nil) (fun _ _ _ _ _ => (pe_tup (pa_cons (pe_g G_law_pull (hr.mono (by decide)) (pa_cons (pv 0) (pa_cons (pv 4) pa_nil))) (pa_cons (pe_g G_law_pull (hr.mono (by decide)) (pa_cons (pv 0) (pa_cons (pe_op op_add (pv 3) pe_int) pa_nil))) pa_nil))))) pa_nil)) pa_nil)))))
      (pss_one (ps_ret (pe_tup (pa_cons (pv 1) (pa_cons (pv 5) (pa_cons (pe_g G_law_pull (hr.mono (by decide)) (pa_cons (pv 0) (pa_cons (pv 4) pa_nil))) pa_nil)))))))), ?_⟩
    have lsz : ∀ {x : Nat}, x ≤ 100000 → x < sizeLine := fun {x} hx => by
      rw [sizeLine_eq]
      omega
    have al3 := al.le
    refine ⟨_, rfl, _, rfl, b, bq, 3, rfl, B, by decide, by decide, fun k0 H1 lt0 x1 B1 => ?_⟩
    refine ⟨_, _, rfl, rfl, Nat.zero_le _, fun sl hsl => ⟨(by show 2 ≤ sizeLine; decide), fun q hq => ?_⟩⟩
    have s2 := same_new (o := .lst []) hsl
    have s3 := same_new (o := .tup [V.int (1 + (k0 : Int)), V.ref sl]) hq
    refine ⟨q, _, rfl, SqT.of upd_same, rfl, _, _, rfl, _, _, rfl, rfl, ?_⟩
    have hsl3 := s3 _ _ (upd_same (H := H1) (a := sl) (o := .lst []))
    have s23 := s2.trans s3
    have nslb : sl ≠ b := B1.ne hsl
    have nslq : sl ≠ bq := B1.neq hsl
    have nsl : H sl = none := x1.free nslb hsl
    have x3 := x1.then s23
    have B3 := B1.mono s23
    generalize upd (upd H1 sl (.lst [])) q (.tup [V.int (1 + (k0 : Int)), V.ref sl]) = H3 at hsl3 x3 B3 ⊢
    clear s2 s3 s23 hq hsl
    have e1k : (1 : Int) + (k0 : Int) = ((k0 + 1 : Nat) : Int) := by omega
    refine ⟨_, rfl, _, rfl, by omega, by omega, ?_⟩
    refine for_it walk_range (fun i σ H' => ∃ r6 vs tb, σ = [some (V.ref b), some (V.str (S ls)), some (V.int 3), some (V.int 3), some (V.int (1 + (k0 : Int))), some (V.ref sl), r6, none] ∧ SameX b H H' ∧ BagV H' b bq ∧ H' sl = some (.lst vs) ∧ Paired (fun v row => TupOf (PrV H') H' v row) vs tb ∧ tb.length = i ∧ (∀ x ∈ tb, x.length = ls.length) ∧ (∀ x ∈ tb, ∀ e ∈ x, e.1 < k0 + 1 ∧ e.2 ≤ 3)) ?_ (fun _ _ _ _ _ => trivial) ?_ ?_
    · exact ⟨none, [], [], rfl, x3, B3, hsl3, .nil, rfl, fun x h => (by cases h), fun x h => (by cases h)⟩
    · rintro i x σ H4 H5 hi ⟨r6, vs, tb, rfl, x4, B4, hs4, pv4, lt4, row4, ent4⟩ ⟨rfl, rfl⟩
      refine ⟨_, rfl, .inl ⟨rfl, _, SqL.of hs4⟩, ?_⟩
      refine ⟨_, rfl, _, rfl, fun D hD => ?_⟩
      have nDb : D ≠ b := B4.ne hD
      have nDq : D ≠ bq := B4.neq hD
      have nDs : D ≠ sl := (ne_of_none hs4 hD).symm
      have s5 := same_new (o := .lst []) hD
      refine lc_it walk_str (fun j H' => SameX b H5 H' ∧ BagV H' b bq ∧ ∃ ws row, H' D = some (.lst ws) ∧ Paired (PrV H') ws row ∧ row.length = j ∧ ∀ e ∈ row, e.1 < k0 + 1 ∧ e.2 ≤ 3) ⟨SameX.of s5, B4.mono s5, [], [], upd_same, .nil, rfl, fun e h => (by cases h)⟩ (fun _ _ _ _ => trivial) ?_ ?_
      · rintro j x H6 H7 hj ⟨x6, B6, ws, row, hD6, pw6, lr6, en6⟩ ⟨rfl, c, hc, rfl⟩
        rw [str_size] at hj
        refine ⟨rfl, ?_⟩
        unfold tYes
        refine iteT ⟨_, rfl, _, rfl, b, bq, _, rfl, B6, by omega, by omega, fun k1 H8 lt1 x8 B8 => ?_⟩
        refine ⟨_, rfl, _, rfl, _, _, rfl, rfl, b, bq, _, rfl, B8, by decide, by decide, fun k2 H9 lt2 x9 B9 => ?_⟩
        refine ⟨(by show 2 ≤ sizeLine; decide), fun q hq => ?_⟩
        have sq := same_new (o := .tup [V.int k1, V.int k2]) hq
        have t79 := (x8.tsB B6).trans (x9.tsB B8)
        have hD9 := x9 _ _ nDb (x8 _ _ nDb hD6)
        have lp := paired_len pw6
        refine ⟨ws, sq _ _ hD9, lsz (by omega), ?_, ?_, ws ++ [V.ref q], row ++ [(k1, k2)], upd_same, ?_, by rw [List.length_append, List.length_singleton, lr6], fun e he => ?_⟩
        · exact SameX.mut (((x6.trans x8).trans x9).then sq) hD
        · exact (B9.mono sq).other nDb nDq
        · have tq := (TSame.of sq).trans ((TSame.refl _).mut (o := .lst (ws ++ [V.ref q])) (sq _ _ hD9) fun _ e => nomatch e)
          refine paired_app (paired_imp pw6 fun _ _ r => r.mono (t79.trans tq)) (.cons ⟨q, rfl, ?_⟩ .nil)
          rw [upd_ne (ne_of_none hD9 hq).symm]
          exact upd_same
        · rcases List.mem_append.mp he with z | z
          · exact en6 e z
          · have : e = (k1, k2) := by simpa using z
            subst this
            exact ⟨by show k1 < k0 + 1; omega, by show k2 ≤ 3; omega⟩
      · rintro H6 ⟨x6, B6, ws, row, hD6, pw6, lr6, en6⟩
        rw [str_size] at lr6
        refine ⟨D, ws, rfl, .inl ⟨SqL.of hD6, fun l hl => ?_⟩⟩
        have sl7 := same_new (o := .tup ws) hl
        have hs6 := x6 _ _ nslb hs4
        have lv := paired_len pv4
        refine ⟨sl, vs, V.ref l, rfl, rfl, sl7 _ _ hs6, lsz (by omega), ?_⟩
        have tl := (TSame.of sl7).trans ((TSame.refl _).mut (o := .lst (vs ++ [V.ref l])) (sl7 _ _ hs6) fun _ e => nomatch e)
        have t6 := x6.tsB B4
        refine ⟨_, vs ++ [V.ref l], tb ++ [row], rfl, SameX.mut ((x4.trans x6).then sl7) nsl, (B6.mono sl7).other nslb nslq, upd_same, paired_app (paired_imp pv4 fun v x r => TupOf.monoX (F := PrV) (fun t q => q.mono t) (t6.trans tl) r) (.cons ⟨l, ws, rfl, ?_, paired_imp pw6 fun _ _ r => r.mono tl⟩ .nil), by rw [List.length_append, List.length_singleton, lt4], fun x hx => ?_, fun x hx => ?_⟩
        · rw [upd_ne (ne_of_none hs6 hl).symm]
          exact upd_same
        · rcases List.mem_append.mp hx with z | z
          · exact row4 x z
          · have : x = row := by simpa using z
            rw [this, lr6]
        · rcases List.mem_append.mp hx with z | z
          · exact ent4 x z
          · have : x = row := by simpa using z
            rw [this]
            exact en6
    · rintro σ H4 ⟨r6, vs, tb, rfl, x4, B4, hs4, pv4, lt4, row4, ent4⟩
      have ltb : tb.length = k0 + 1 := by rw [lt4]; omega
      refine ⟨_, rfl, _, rfl, _, rfl, _, rfl, b, bq, _, rfl, B4, by omega, by omega, fun k2 H5 lt5 x5 B5 => ⟨(by show 3 ≤ sizeLine; decide), fun a ha => ?_⟩⟩
      have sa := same_new (o := .tup [V.str (S ls), V.ref sl, V.int k2]) ha
      have hs5 := x5 _ _ nslb hs4
      have t45 := (x5.tsB B4).trans (.of sa)
      refine k a ⟨ls, tb, k2⟩ _ rfl ⟨al, by show 1 ≤ tb.length; omega, by show tb.length ≤ 3; omega, row4, fun x hx e he => ?_, by show k2 < tb.length; omega⟩ ⟨sl, upd_same, vs, sa _ _ hs5, paired_imp pv4 fun v x r => TupOf.monoX (F := PrV) (fun t q => q.mono t) t45 r⟩ ((x4.trans x5).then sa) (B5.mono sa)
      have := ent4 x hx e he
      exact ⟨by show e.1 < tb.length; omega, this.2⟩
end
end K42
set_option Elab.async false
set_option linter.all false
set_option maxRecDepth 100000
set_option maxHeartbeats 4000000
namespace K42
open PySem PySem.Spec PyProof.Rows L2

open SX
def sp_law_told : Sp := fun vs H Q _ => ∃ (b bq : Addr) (src tgt : Wd) (sh : Int), vs = [.ref b, .str (S src), .str (S tgt), .int 4, .int sh] ∧ BagV H b bq ∧ Alpha src ∧ Alpha tgt ∧ 1 ≤ sh ∧ sh ≤ 1000 ∧ ∀ a (t : Tr) H', t.src = src → t.tgt = tgt → TrOk t → TldV H' a t → SameX b H H' → BagV H' b bq → Q (.ref a) H'
section
variable {P : Program} {w : World} {K : PySem.W.Frag} {mg : Str → Option Value} {base : Heap}
theorem sc_law_told : FnScope ["_law_bag_here", "_law_source", "_law_target", "_law_most", "_law_share", "_law_count", "_law_states", "_law_k", "_law_row", "_law_letter", "_law_output_here"] ["_law_bag_here", "_law_source", "_law_target", "_law_most", "_law_share"] (defScope s_g_law_told) := ⟨rfl, rfl, rfl, by decide +kernel, rfl, by decide +kernel, by decide +kernel⟩
theorem ok_law_told (T : Tp K mg) (G_law_pull : GOk P w K mg base "_law_pull" 1 ["_law_bag_here", "_law_count"] sp_law_pull) (G_law_of : GOk P w K mg base "_law_of" 2 ["_law_bag_here", "_law_items"] sp_law_of) : GOk P w K mg base "_law_told" 3 ["_law_bag_here", "_law_source", "_law_target", "_law_most", "_law_share"] sp_law_told := by
  refine gok_of (st := s_g_law_told) T.fd_g_law_told T.g_law_told sc_law_told (fun _ _ _ _ _ _ us hl => match us, hl with | [_, _, _, _, _], _ => rfl) (fun vs H Q E h => ?_) (fun cdv A outer s H vs Q E hr h => ?_)
  · obtain ⟨b, bq, src, tgt, sh, rfl, _⟩ := h
    rfl
  · obtain ⟨b, bq, src, tgt, sh, rfl, B, a1, a2, sh1, sh2, k⟩ := h
    have hu := hu_of hr
    refine ⟨_, (pss_cons (ps_par (i := 5) (j := 6) (by rfl) sc_law_told.nd rfl rfl (by decide) rfl rfl (pa_cons (pe_op op_add pe_int (pe_g G_law_pull (hr.mono (by decide)) (pa_cons (pv 0) (pa_cons (pv 3) pa_nil)))) (pa_cons (pe_lst pa_nil) pa_nil)) (by rfl))
      (pss_cons (ps_for PassesOwn.never rfl (pi_range1 (by rfl) T.b_range (pa_cons (pv 5) pa_nil)) (pg_name (i := 7) sc_law_told.nd rfl (by first | exact Or.inl rfl | exact Or.inr rfl)) (pss_cons (ps_set (i := 8) sc_law_told.nd rfl (by first | exact Or.inl rfl | exact Or.inr rfl) (pe_lst pa_nil))
      (pss_cons (ps_for PassesOwn.never rfl (pi_str (pv 1)) (pg_name (i := 9) sc_law_told.nd rfl (by first | exact Or.inl rfl | exact Or.inr rfl)) (Evl.pss_cut (ps_set (i := 10) sc_law_told.nd rfl (by first | exact Or.inl rfl | exact Or.inr rfl) (pe_ifExp (pt_cmpR op_eq (pe_g G_law_pull (hr.mono (by decide)) (pa_cons (pv 0) (pa_cons (pv 4) pa_nil))) pe_int (nomark _)) pe_str (pe_g G_law_of (hr.mono (by decide)) (pa_cons (pv 0) (pa_cons (pe_callTy (call_list_str rfl) (by rfl) T.b_list (by decide +kernel) (pa_cons (pv 2) pa_nil)) pa_nil)))))
      (pss_one (ps_expr (pe_bm PySem.F.plainAttrs_list PySem.F.slot_list_append PySem.F.type_list_append mt_append (pv 8) (pa_cons (pe_tup (pa_cons (pe_g G_law_pull (hr.mono (by decide)) (pa_cons (pv 0) (pa_cons (pv 5) pa_nil))) (pa_cons (pv 10) pa_nil))) pa_nil))))))
      (pss_one (ps_expr (pe_bm PySem.F.plainAttrs_list PySem.F.slot_list_append PySem.F.type_list_append mt_append (pv 6) (pa_cons (pe_callTy (tuple_ofK K) (by rfl) T.b_tuple (by decide +kernel) (pa_cons (pv 8) pa_nil)) pa_nil)))))))
      (pss_one (ps_ret (pe_tup (pa_cons (pv 1) (pa_cons (pv 2) (pa_cons (pv 6) (pa_cons (pe_g G_law_pull (hr.mono (by decide)) (pa_cons (pv 0) (pa_cons (pv 5) pa_nil))) pa_nil))))))))), ?_⟩
    have lsz : ∀ {x : Nat}, x ≤ 100000 → x < sizeLine := fun {x} hx => by
      rw [sizeLine_eq]
      omega
    have al3 := a1.le
    have tl3 := a2.le
    have tl1 := a2.pos
    refine ⟨_, rfl, _, rfl, b, bq, 4, rfl, B, by decide, by decide, fun k0 H1 lt0 x1 B1 => ?_⟩
    refine ⟨_, _, rfl, rfl, Nat.zero_le _, fun sl hsl => ⟨_, _, rfl, ?_⟩⟩
    have s2 := same_new (o := .lst []) hsl
    have hsl3 : (upd H1 sl (.lst [])) sl = some (.lst []) := upd_same
    have nslb : sl ≠ b := B1.ne hsl
    have nslq : sl ≠ bq := B1.neq hsl
    have nsl : H sl = none := x1.free nslb hsl
    have x3 := x1.then s2
    have B3 := B1.mono s2
    generalize upd H1 sl (.lst []) = H3 at hsl3 x3 B3 ⊢
    clear s2 hsl
    have e1k : (1 : Int) + (k0 : Int) = ((k0 + 1 : Nat) : Int) := by omega
    refine ⟨_, rfl, _, rfl, by omega, by omega, ?_⟩
    refine for_it walk_range (fun i σ H' => ∃ r7 r8 r9 r10 vs tb, σ = [some (V.ref b), some (V.str (S src)), some (V.str (S tgt)), some (V.int 4), some (V.int sh), some (V.int (1 + (k0 : Int))), some (V.ref sl), r7, r8, r9, r10] ∧ SameX b H H' ∧ BagV H' b bq ∧ H' sl = some (.lst vs) ∧ Paired (fun v row => TupOf (AnV H') H' v row) vs tb ∧ tb.length = i ∧ (∀ x ∈ tb, x.length = src.length) ∧ (∀ x ∈ tb, ∀ e ∈ x, e.1 < k0 + 1 ∧ (e.2 = [] ∨ ∃ c ∈ tgt, e.2 = [c]))) ?_ (fun _ _ _ _ _ => trivial) ?_ ?_
    · exact ⟨none, none, none, none, [], [], rfl, x3, B3, hsl3, .nil, rfl, fun x h => (by cases h), fun x h => (by cases h)⟩
    · rintro i x σ H4 H5 hi ⟨r7, r8, r9, r10, vs, tb, rfl, x4, B4, hs4, pv4, lt4, row4, ent4⟩ ⟨rfl, rfl⟩
      refine ⟨Nat.zero_le _, fun D hD => ?_⟩
      have nDb : D ≠ b := B4.ne hD
      have nDq : D ≠ bq := B4.neq hD
      have nDs : D ≠ sl := (ne_of_none hs4 hD).symm
      have s5 := same_new (o := .lst []) hD
      refine ⟨_, rfl, _, rfl, ?_⟩
      refine for_it walk_str (fun j σ H' => ∃ r9 r10 ws row, σ = [some (V.ref b), some (V.str (S src)), some (V.str (S tgt)), some (V.int 4), some (V.int sh), some (V.int (1 + (k0 : Int))), some (V.ref sl), some (V.int (0 + (i : Int))), some (V.ref D), r9, r10] ∧ SameX b H5 H' ∧ BagV H' b bq ∧ H' D = some (.lst ws) ∧ Paired (AnV H') ws row ∧ row.length = j ∧ ∀ e ∈ row, e.1 < k0 + 1 ∧ (e.2 = [] ∨ ∃ c ∈ tgt, e.2 = [c])) ?_ (fun _ _ _ _ _ => trivial) ?_ ?_
      · exact ⟨r9, r10, [], [], rfl, SameX.of s5, B4.mono s5, upd_same, .nil, rfl, fun e h => (by cases h)⟩
      · rintro j x σ H6 H7 hj ⟨r9, r10, ws, row, rfl, x6, B6, hD6, pw6, lr6, en6⟩ ⟨rfl, c, hc, rfl⟩
        rw [str_size] at hj
        refine ⟨fun σ' H' => ∃ o : Wd, σ' = [some (V.ref b), some (V.str (S src)), some (V.str (S tgt)), some (V.int 4), some (V.int sh), some (V.int (1 + (k0 : Int))), some (V.ref sl), some (V.int (0 + (i : Int))), some (V.ref D), some (V.str ⟨#[c]⟩), some (V.str (S o))] ∧ (o = [] ∨ ∃ c ∈ tgt, o = [c]) ∧ SameX b H7 H' ∧ BagV H' b bq, ?_, ?_⟩
        · refine ⟨_, rfl, _, rfl, b, bq, sh, rfl, B6, sh1, sh2, fun k1 H8 lt1 x8 B8 => ⟨rfl, _, rfl, ?_⟩⟩
          refine ite2 (fun _ => ?_) (fun _ => ?_)
          · exact ⟨[], rfl, .inl rfl, x8, B8⟩
          · refine ⟨_, rfl, _, rfl, _, rfl, (by show tgt.toArray.size ≤ 1000000; rw [List.size_toArray]; omega), fun p hp => ?_⟩
            have s9 := same_new (o := .lst (tgt.map fun c => V.str ⟨#[c]⟩)) hp
            refine ⟨b, bq, p, (tgt.map fun c => V.str ⟨#[c]⟩), rfl, B8.mono s9, upd_same, B8.ne hp, by rw [List.length_map]; omega, by rw [List.length_map]; omega, fun v H9 hv x9 B9 => ?_⟩
            obtain ⟨c', hc', rfl⟩ := List.mem_map.mp hv
            exact ⟨[c'], rfl, .inr ⟨c', hc', rfl⟩, (x8.then s9).trans x9, B9⟩
        rintro σ' H8 ⟨o, rfl, ho, x8, B8⟩
        have hD8 := x8 _ _ nDb hD6
        refine ⟨_, rfl, .inl ⟨rfl, _, SqL.of hD8⟩, ?_⟩
        refine ⟨_, rfl, _, rfl, b, bq, _, rfl, B8, by omega, by omega, fun k1 H9 lt1 x9 B9 => ⟨_, rfl, (by show 2 ≤ sizeLine; decide), fun q hq => ?_⟩⟩
        have sq := same_new (o := .tup [V.int k1, V.str (S o)]) hq
        have t79 := (x8.tsB B6).trans (x9.tsB B8)
        have hD9 := x9 _ _ nDb hD8
        have lp := paired_len pw6
        refine ⟨D, ws, V.ref q, rfl, rfl, sq _ _ hD9, lsz (by omega), ?_⟩
        have tq := (TSame.of sq).trans ((TSame.refl _).mut (o := .lst (ws ++ [V.ref q])) (sq _ _ hD9) fun _ e => nomatch e)
        refine ⟨_, _, ws ++ [V.ref q], row ++ [(k1, o)], rfl, SameX.mut (((x6.trans x8).trans x9).then sq) hD, (B9.mono sq).other nDb nDq, upd_same, ?_, by rw [List.length_append, List.length_singleton, lr6], fun e he => ?_⟩
        · refine paired_app (paired_imp pw6 fun _ _ r => r.mono (t79.trans tq)) (.cons ⟨q, rfl, ?_⟩ .nil)
          rw [upd_ne (ne_of_none hD9 hq).symm]
          exact upd_same
        · rcases List.mem_append.mp he with z | z
          · exact en6 e z
          · have : e = (k1, o) := by simpa using z
            subst this
            exact ⟨by show k1 < k0 + 1; omega, ho⟩
      · rintro σ H6 ⟨r9, r10, ws, row, rfl, x6, B6, hD6, pw6, lr6, en6⟩
        rw [str_size] at lr6
        have hs6 := x6 _ _ nslb hs4
        refine ⟨_, rfl, .inl ⟨rfl, _, SqL.of hs6⟩, ?_⟩
        refine ⟨_, rfl, D, ws, rfl, .inl ⟨SqL.of hD6, fun l hl => ?_⟩⟩
        have sl7 := same_new (o := .tup ws) hl
        have lv := paired_len pv4
        refine ⟨sl, vs, V.ref l, rfl, rfl, sl7 _ _ hs6, lsz (by omega), ?_⟩
        have tl := (TSame.of sl7).trans ((TSame.refl _).mut (o := .lst (vs ++ [V.ref l])) (sl7 _ _ hs6) fun _ e => nomatch e)
        have t6 := x6.tsB B4
        refine ⟨_, _, _, _, vs ++ [V.ref l], tb ++ [row], rfl, SameX.mut ((x4.trans x6).then sl7) nsl, (B6.mono sl7).other nslb nslq, upd_same, paired_app (paired_imp pv4 fun v x r => TupOf.monoX (F := AnV) (fun t q => q.mono t) (t6.trans tl) r) (.cons ⟨l, ws, rfl, ?_, paired_imp pw6 fun _ _ r => r.mono tl⟩ .nil), by rw [List.length_append, List.length_singleton, lt4], fun x hx => ?_, fun x hx => ?_⟩
        · rw [upd_ne (ne_of_none hs6 hl).symm]
          exact upd_same
        · rcases List.mem_append.mp hx with z | z
          · exact row4 x z
          · have : x = row := by simpa using z
            rw [this, lr6]
        · rcases List.mem_append.mp hx with z | z
          · exact ent4 x z
          · have : x = row := by simpa using z
            rw [this]
            exact en6
    · rintro σ H4 ⟨r7, r8, r9, r10, vs, tb, rfl, x4, B4, hs4, pv4, lt4, row4, ent4⟩
      have ltb : tb.length = k0 + 1 := by rw [lt4]; omega
      refine ⟨_, rfl, _, rfl, _, rfl, _, rfl, _, rfl, b, bq, _, rfl, B4, by omega, by omega, fun k2 H5 lt5 x5 B5 => ⟨(by show 4 ≤ sizeLine; decide), fun a ha => ?_⟩⟩
      have sa := same_new (o := .tup [V.str (S src), V.str (S tgt), V.ref sl, V.int k2]) ha
      have hs5 := x5 _ _ nslb hs4
      have t45 := (x5.tsB B4).trans (.of sa)
      refine k a ⟨src, tgt, tb, k2⟩ _ rfl rfl ⟨a1, a2, by show 1 ≤ tb.length; omega, by show tb.length ≤ 4; omega, row4, fun x hx e he => ?_, by show k2 < tb.length; omega⟩ ⟨sl, upd_same, vs, sa _ _ hs5, paired_imp pv4 fun v x r => TupOf.monoX (F := AnV) (fun t q => q.mono t) t45 r⟩ ((x4.trans x5).then sa) (B5.mono sa)
      have := ent4 x hx e he
      exact ⟨by show e.1 < tb.length; omega, this.2⟩
def sp_law_rival : Sp := fun vs H Q _ => ∃ (b bq : Addr) (src tgt : Wd), vs = [.ref b, .str (S src), .str (S tgt), .int 4] ∧ BagV H b bq ∧ Alpha src ∧ Alpha tgt ∧ ∀ a (t : Op) H', t.src = src → t.tgt = tgt → OpOk t → OtlV H' a t → SameX b H H' → BagV H' b bq → Q (.ref a) H'
theorem sc_law_rival : FnScope ["_law_bag_here", "_law_source", "_law_target", "_law_most", "_law_count", "_law_states", "_law_k", "_law_place"] ["_law_bag_here", "_law_source", "_law_target", "_law_most"] (defScope s_g_law_rival) := ⟨rfl, rfl, rfl, by decide +kernel, rfl, by decide +kernel, by decide +kernel⟩
theorem ok_law_rival (T : Tp K mg) (G_law_pull : GOk P w K mg base "_law_pull" 1 ["_law_bag_here", "_law_count"] sp_law_pull) (G_law_of : GOk P w K mg base "_law_of" 2 ["_law_bag_here", "_law_items"] sp_law_of) : GOk P w K mg base "_law_rival" 3 ["_law_bag_here", "_law_source", "_law_target", "_law_most"] sp_law_rival := by
  refine gok_of (st := s_g_law_rival) T.fd_g_law_rival T.g_law_rival sc_law_rival (fun _ _ _ _ _ _ us hl => match us, hl with | [_, _, _, _], _ => rfl) (fun vs H Q E h => ?_) (fun cdv A outer s H vs Q E hr h => ?_)
  · obtain ⟨b, bq, src, tgt, rfl, _⟩ := h
    rfl
  · obtain ⟨b, bq, src, tgt, rfl, B, a1, a2, k⟩ := h
    have hu := hu_of hr
    refine ⟨_, (pss_cons (ps_asg (pe_tup (pa_cons (pe_op op_add pe_int (pe_g G_law_pull (hr.mono (by decide)) (pa_cons (pv 0) (pa_cons (pv 3) pa_nil)))) (pa_cons (pe_lst pa_nil) pa_nil))) (pg_tupK K (n := 2) (by rfl) (pgs_cons (pg_name (i := 4) sc_law_rival.nd rfl (by first | exact Or.inl rfl | exact Or.inr rfl)) (pgs_cons (pg_name (i := 5) sc_law_rival.nd rfl (by first | exact Or.inl rfl | exact Or.inr rfl)) pgs_nil))))
      (pss_cons (ps_for PassesOwn.never rfl (pi_range1 (by rfl) T.b_range (pa_cons (pv 4) pa_nil)) (pg_name (i := 6) sc_law_rival.nd rfl (by first | exact Or.inl rfl | exact Or.inr rfl)) (pss_one (ps_expr (pe_bm PySem.F.plainAttrs_list PySem.F.slot_list_append PySem.F.type_list_append mt_append (pv 5) (pa_cons (pe_tup (pa_cons (pe_g G_law_of (hr.mono (by decide)) (pa_cons (pv 0) (pa_cons (pe_callTy (call_list_str rfl) (by rfl) T.b_list (by decide +kernel) (pa_cons (pv 1) pa_nil)) pa_nil))) (pa_cons (pe_callTy (tuple_ofK K) (by rfl) T.b_tuple (by decide +kernel) (pa_cons (pe_lc (own := [("_law_place", 7)]) (by rfl) sc_law_rival.nd (pi_range1 (by rfl) T.b_range (pa_cons (pe_op op_add (pe_callB call_len_str (by rfl) T.b_len PySem.boot_len (pa_cons (pv 2) pa_nil)) pe_int) pa_nil)) (blkOk_by (own := [("_law_place", 7)]) (N := ["_law_bag_here", "_law_source", "_law_target", "_law_most", "_law_count", "_law_states", "_law_k", "_law_place"]) (sc := defScope s_g_law_rival) (by decide +kernel)) (fun _ _ _ _ _ => (pg_name (i := 7) sc_law_rival.nd rfl (by first | exact Or.inl rfl | exact Or.inr rfl))) (fun _ _ _ _ _ => pts_nil) (fun _ _ _ _ _ => (pe_g G_law_pull (hr.mono (by decide)) (pa_cons (pv 0) (pa_cons (pv 4) pa_nil))))) pa_nil)) pa_nil))) pa_nil)))))
      (pss_one (ps_ret (pe_tup (pa_cons (pv 1) (pa_cons (pv 2) (pa_cons (pv 5) (pa_cons (pe_g G_law_pull (hr.mono (by decide)) (pa_cons (pv 0) (pa_cons (pv 4) pa_nil))) pa_nil))))))))), ?_⟩
    have lsz : ∀ {x : Nat}, x ≤ 100000 → x < sizeLine := fun {x} hx => by
      rw [sizeLine_eq]
      omega
    have al3 := a1.le
    have al1 := a1.pos
    have tl3 := a2.le
    refine ⟨_, rfl, _, rfl, b, bq, 4, rfl, B, by decide, by decide, fun k0 H1 lt0 x1 B1 => ?_⟩
    refine ⟨_, _, rfl, rfl, Nat.zero_le _, fun sl hsl => ⟨(by show 2 ≤ sizeLine; decide), fun q hq => ?_⟩⟩
    have s2 := same_new (o := .lst []) hsl
    have s3 := same_new (o := .tup [V.int (1 + (k0 : Int)), V.ref sl]) hq
    refine ⟨q, _, rfl, SqT.of upd_same, rfl, _, _, rfl, _, _, rfl, rfl, ?_⟩
    have hsl3 := s3 _ _ (upd_same (H := H1) (a := sl) (o := .lst []))
    have s23 := s2.trans s3
    have nslb : sl ≠ b := B1.ne hsl
    have nslq : sl ≠ bq := B1.neq hsl
    have nsl : H sl = none := x1.free nslb hsl
    have x3 := x1.then s23
    have B3 := B1.mono s23
    generalize upd (upd H1 sl (.lst [])) q (.tup [V.int (1 + (k0 : Int)), V.ref sl]) = H3 at hsl3 x3 B3 ⊢
    clear s2 s3 s23 hq hsl
    have e1k : (1 : Int) + (k0 : Int) = ((k0 + 1 : Nat) : Int) := by omega
    refine ⟨_, rfl, _, rfl, by omega, by omega, ?_⟩
    refine for_it walk_range (fun i σ H' => ∃ r6 vs tb, σ = [some (V.ref b), some (V.str (S src)), some (V.str (S tgt)), some (V.int 4), some (V.int (1 + (k0 : Int))), some (V.ref sl), r6, none] ∧ SameX b H H' ∧ BagV H' b bq ∧ H' sl = some (.lst vs) ∧ Paired (CgV H') vs tb ∧ tb.length = i ∧ (∀ e ∈ tb, e.1 ∈ src ∧ e.2.length = tgt.length + 1 ∧ ∀ x ∈ e.2, x < k0 + 1)) ?_ (fun _ _ _ _ _ => trivial) ?_ ?_
    · exact ⟨none, [], [], rfl, x3, B3, hsl3, .nil, rfl, fun x h => (by cases h)⟩
    · rintro i x σ H4 H5 hi ⟨r6, vs, tb, rfl, x4, B4, hs4, pv4, lt4, ent4⟩ ⟨rfl, rfl⟩
      refine ⟨_, rfl, .inl ⟨rfl, _, SqL.of hs4⟩, ?_⟩
      refine ⟨_, rfl, _, rfl, _, rfl, (by show src.toArray.size ≤ 1000000; rw [List.size_toArray]; omega), fun p hp => ?_⟩
      have s6 := same_new (o := .lst (src.map fun c => V.str ⟨#[c]⟩)) hp
      refine ⟨b, bq, p, (src.map fun c => V.str ⟨#[c]⟩), rfl, B4.mono s6, upd_same, B4.ne hp, by rw [List.length_map]; omega, by rw [List.length_map]; omega, fun v H7 hv x7 B7 => ?_⟩
      obtain ⟨c, hc, rfl⟩ := List.mem_map.mp hv
      have x57 := (SameX.of s6).trans x7
      refine ⟨_, rfl, _, rfl, lit_len (by omega), _, _, rfl, rfl, _, rfl, by rw [S_len]; omega, by rw [S_len]; omega, fun D hD => ?_⟩
      have nDb : D ≠ b := B7.ne hD
      have nDq : D ≠ bq := B7.neq hD
      have hs7 := x57 _ _ nslb hs4
      have nDs : D ≠ sl := (ne_of_none hs7 hD).symm
      have s8 := same_new (o := .lst []) hD
      refine lc_it walk_range (fun j H' => SameX b H7 H' ∧ BagV H' b bq ∧ ∃ ns, H' D = some (.lst (intV ns)) ∧ ns.length = j ∧ ∀ n ∈ ns, n < k0 + 1) ⟨SameX.of s8, B7.mono s8, [], upd_same, rfl, fun e h => (by cases h)⟩ (fun _ _ _ _ => trivial) ?_ ?_
      · rintro j x H8 H9 hj ⟨x8, B8, ns, hD8, ln8, en8⟩ ⟨rfl, rfl⟩
        rw [S_len] at hj
        refine ⟨rfl, ?_⟩
        unfold tYes
        refine iteT ⟨_, rfl, _, rfl, b, bq, _, rfl, B8, by omega, by omega, fun k1 H10 lt1 x10 B10 => ?_⟩
        have hD10 := x10 _ _ nDb hD8
        refine ⟨_, hD10, by rw [intV_len]; exact lsz (by omega), SameX.mut (x8.trans x10) hD, B10.other nDb nDq, ns ++ [k1], ?_, by rw [List.length_append, List.length_singleton, ln8], fun n hn => ?_⟩
        · rw [upd_same]
          unfold intV
          rw [List.map_append]
          rfl
        · rcases List.mem_append.mp hn with z | z
          · exact en8 n z
          · have : n = k1 := by simpa using z
            omega
      · rintro H8 ⟨x8, B8, ns, hD8, ln8, en8⟩
        rw [S_len] at ln8
        refine ⟨D, _, rfl, .inl ⟨SqL.of hD8, fun l hl => ?_⟩⟩
        have sl9 := same_new (o := .tup (intV ns)) hl
        refine ⟨(by show 2 ≤ sizeLine; decide), fun z hz => ?_⟩
        have sz := same_new (o := .tup [V.str ⟨#[c]⟩, V.ref l]) hz
        have s9z := sl9.trans sz
        have hs8 := x8 _ _ nslb hs7
        have lv := paired_len pv4
        refine ⟨sl, vs, V.ref z, rfl, rfl, s9z _ _ hs8, lsz (by omega), ?_⟩
        have tz := (TSame.refl (upd (upd H8 l (.tup (intV ns))) z (.tup [V.str ⟨#[c]⟩, V.ref l]))).mut (o := .lst (vs ++ [V.ref z])) (s9z _ _ hs8) fun _ e => nomatch e
        have t4 := ((x57.tsB B4).trans (x8.tsB B7)).trans ((TSame.of s9z).trans tz)
        refine ⟨_, vs ++ [V.ref z], tb ++ [(c, ns)], rfl, SameX.mut (((x4.trans x57).trans x8).then s9z) nsl, (B8.mono s9z).other nslb nslq, upd_same, paired_app (paired_imp pv4 fun v x r => r.mono t4) (.cons ⟨z, l, rfl, tz _ _ upd_same, tz _ _ (sz _ _ upd_same)⟩ .nil), by rw [List.length_append, List.length_singleton, lt4], fun e he => ?_⟩
        rcases List.mem_append.mp he with q | q
        · exact ent4 e q
        · have : e = (c, ns) := by simpa using q
          subst this
          exact ⟨hc, by show ns.length = _; omega, en8⟩
    · rintro σ H4 ⟨r6, vs, tb, rfl, x4, B4, hs4, pv4, lt4, ent4⟩
      have ltb : tb.length = k0 + 1 := by rw [lt4]; omega
      refine ⟨_, rfl, _, rfl, _, rfl, _, rfl, _, rfl, b, bq, _, rfl, B4, by omega, by omega, fun k2 H5 lt5 x5 B5 => ⟨(by show 4 ≤ sizeLine; decide), fun a ha => ?_⟩⟩
      have sa := same_new (o := .tup [V.str (S src), V.str (S tgt), V.ref sl, V.int k2]) ha
      have hs5 := x5 _ _ nslb hs4
      have t45 := (x5.tsB B4).trans (.of sa)
      refine k a ⟨src, tgt, tb, k2⟩ _ rfl rfl ⟨a1, a2, by show 1 ≤ tb.length; omega, by show tb.length ≤ 4; omega, fun e he => ?_, by show k2 < tb.length; omega⟩ ⟨sl, upd_same, vs, sa _ _ hs5, paired_imp pv4 fun v x r => r.mono t45⟩ ((x4.trans x5).then sa) (B5.mono sa)
      have := ent4 e he
      exact ⟨this.1, this.2.1, fun x hx => by show x < tb.length; have := this.2.2 x hx; omega⟩
theorem made_same {H H' : Hp} {x dx C : Addr} (hx : H x = none) (hd : H dx = none) (ne : dx ≠ x) (y : SameX x (upd (upd H dx (.own x)) x (.ins C dx [])) H') : Same H H' := fun c o e => by
  have n1 : c ≠ x := fun z => by rw [z, hx] at e; cases e
  have n2 : c ≠ dx := fun z => by rw [z, hd] at e; cases e
  refine y c o n1 ?_
  rw [upd_ne n1, upd_ne n2]
  exact e
theorem made_to {H : Hp} {x dx C : Addr} (hx : H x = none) (hd : H dx = none) (ne : dx ≠ x) : Same H (upd (upd H dx (.own x)) x (.ins C dx [])) := made_same hx hd ne (SameX.refl _ _)
def sp_law_made (K : PySem.W.Frag) : Sp := fun vs H Q _ => ∃ (a : Addr) (r : Raw), vs = [.ref a] ∧ RawV H a r ∧ RawOk r ∧ ∀ x H', Same H H' → MacV K H' x r → Q (.ref x) H'
theorem sc_law_made : FnScope ["_law_raw_here"] ["_law_raw_here"] (defScope s_g_law_made) := ⟨rfl, rfl, rfl, by decide +kernel, rfl, by decide +kernel, by decide +kernel⟩
theorem ok_law_made (T : Tp K mg) (G_Machine : COk P w K mg base "Machine" 3 2 ["start"] ["self", "letters", "states", "start"] (sp_Machine_init K)) : GOk P w K mg base "_law_made" 5 ["_law_raw_here"] (sp_law_made K) := by
  refine gok_of (st := s_g_law_made) T.fd_g_law_made T.g_law_made sc_law_made (fun _ _ _ _ _ _ us hl => match us, hl with | [_], _ => rfl) (fun vs H Q E h => ?_) (fun cdv A outer s H vs Q E hr h => ?_)
  · obtain ⟨a, r, rfl, _⟩ := h
    rfl
  · obtain ⟨a, r, rfl, ⟨l, ha, vs, hl, pw⟩, ok, k⟩ := h
    have hu := hu_of hr
    refine ⟨_, (pss_one (ps_ret (pe_mk G_Machine (hr.mono (by decide)) (pa_cons (pe_ix (ix_tupK K) (pv 0) pe_int (fun _ _ => rfl)) (pa_cons (pe_callTy (list_ofK K) (by rfl) T.b_list (by decide +kernel) (pa_cons (pe_ix (ix_tupK K) (pv 0) pe_int (fun _ _ => rfl)) pa_nil)) pa_nil)) (pk_cons (pe_ix (ix_tupK K) (pv 0) pe_int (fun _ _ => rfl)) pk_nil)))), ?_⟩
    refine ⟨_, rfl, a, _, 0, _, rfl, rfl, SqT.of ha, atI_nat (j := 0) rfl, _, rfl, a, _, 1, _, rfl, rfl, SqT.of ha, atI_nat (j := 1) rfl, l, vs, rfl, .inl (SqL.of hl), fun p hp => ?_⟩
    have s1 := same_new (o := .lst vs) hp
    refine ⟨_, rfl, a, _, 2, _, rfl, rfl, SqT.of (s1 _ _ ha), atI_nat (j := 2) rfl, rfl, rfl, fun x dx hx hd ne => ?_⟩
    have s2 := made_to (C := He.ga K "Machine") hx hd ne
    have s12 := s1.trans s2
    exact ⟨x, dx, p, r, rfl, upd_same, ⟨vs, s2 _ _ upd_same, paired_imp pw fun v row q => TupOf.monoT (F := PrV) (fun t q => q.mono t) (.of s12) q⟩, ok, fun H' y mv => ⟨rfl, k x H' (s1.trans (made_same hx hd ne y)) mv⟩⟩
def sp_law_translator (K : PySem.W.Frag) : Sp := fun vs H Q _ => ∃ (a : Addr) (r : Tr), vs = [.ref a] ∧ TldV H a r ∧ TrOk r ∧ ∀ x H', Same H H' → TrV K H' x r → Q (.ref x) H'
theorem sc_law_translator : FnScope ["_law_told_here"] ["_law_told_here"] (defScope s_g_law_translator) := ⟨rfl, rfl, rfl, by decide +kernel, rfl, by decide +kernel, by decide +kernel⟩
theorem ok_law_translator (T : Tp K mg) (G_Translator : COk P w K mg base "Translator" 3 3 ["start"] ["self", "source", "target", "states", "start"] (sp_Translator_init K)) : GOk P w K mg base "_law_translator" 5 ["_law_told_here"] (sp_law_translator K) := by
  refine gok_of (st := s_g_law_translator) T.fd_g_law_translator T.g_law_translator sc_law_translator (fun _ _ _ _ _ _ us hl => match us, hl with | [_], _ => rfl) (fun vs H Q E h => ?_) (fun cdv A outer s H vs Q E hr h => ?_)
  · obtain ⟨a, r, rfl, _⟩ := h
    rfl
  · obtain ⟨a, r, rfl, ⟨l, ha, vs, hl, pw⟩, ok, k⟩ := h
    have hu := hu_of hr
    refine ⟨_, (pss_one (ps_ret (pe_mk G_Translator (hr.mono (by decide)) (pa_cons (pe_ix (ix_tupK K) (pv 0) pe_int (fun _ _ => rfl)) (pa_cons (pe_ix (ix_tupK K) (pv 0) pe_int (fun _ _ => rfl)) (pa_cons (pe_callTy (list_ofK K) (by rfl) T.b_list (by decide +kernel) (pa_cons (pe_ix (ix_tupK K) (pv 0) pe_int (fun _ _ => rfl)) pa_nil)) pa_nil))) (pk_cons (pe_ix (ix_tupK K) (pv 0) pe_int (fun _ _ => rfl)) pk_nil)))), ?_⟩
    refine ⟨_, rfl, a, _, 0, _, rfl, rfl, SqT.of ha, atI_nat (j := 0) rfl, _, rfl, a, _, 1, _, rfl, rfl, SqT.of ha, atI_nat (j := 1) rfl, _, rfl, a, _, 2, _, rfl, rfl, SqT.of ha, atI_nat (j := 2) rfl, l, vs, rfl, .inl (SqL.of hl), fun p hp => ?_⟩
    have s1 := same_new (o := .lst vs) hp
    refine ⟨_, rfl, a, _, 3, _, rfl, rfl, SqT.of (s1 _ _ ha), atI_nat (j := 3) rfl, rfl, rfl, fun x dx hx hd ne => ?_⟩
    have s2 := made_to (C := He.ga K "Translator") hx hd ne
    have s12 := s1.trans s2
    exact ⟨x, dx, p, r, rfl, upd_same, ⟨vs, s2 _ _ upd_same, paired_imp pw fun v row q => TupOf.monoT (F := AnV) (fun t q => q.mono t) (.of s12) q⟩, ok, fun H' y mv => ⟨rfl, k x H' (s1.trans (made_same hx hd ne y)) mv⟩⟩
def sp_law_opponent (K : PySem.W.Frag) : Sp := fun vs H Q _ => ∃ (a : Addr) (r : Op), vs = [.ref a] ∧ OtlV H a r ∧ OpOk r ∧ ∀ x H', Same H H' → OpV K H' x r → Q (.ref x) H'
theorem sc_law_opponent : FnScope ["_law_told_here"] ["_law_told_here"] (defScope s_g_law_opponent) := ⟨rfl, rfl, rfl, by decide +kernel, rfl, by decide +kernel, by decide +kernel⟩
theorem ok_law_opponent (T : Tp K mg) (G_Opponent : COk P w K mg base "Opponent" 3 3 ["start"] ["self", "source", "target", "states", "start"] (sp_Opponent_init K)) : GOk P w K mg base "_law_opponent" 5 ["_law_told_here"] (sp_law_opponent K) := by
  refine gok_of (st := s_g_law_opponent) T.fd_g_law_opponent T.g_law_opponent sc_law_opponent (fun _ _ _ _ _ _ us hl => match us, hl with | [_], _ => rfl) (fun vs H Q E h => ?_) (fun cdv A outer s H vs Q E hr h => ?_)
  · obtain ⟨a, r, rfl, _⟩ := h
    rfl
  · obtain ⟨a, r, rfl, ⟨l, ha, vs, hl, pw⟩, ok, k⟩ := h
    have hu := hu_of hr
    refine ⟨_, (pss_one (ps_ret (pe_mk G_Opponent (hr.mono (by decide)) (pa_cons (pe_ix (ix_tupK K) (pv 0) pe_int (fun _ _ => rfl)) (pa_cons (pe_ix (ix_tupK K) (pv 0) pe_int (fun _ _ => rfl)) (pa_cons (pe_callTy (list_ofK K) (by rfl) T.b_list (by decide +kernel) (pa_cons (pe_ix (ix_tupK K) (pv 0) pe_int (fun _ _ => rfl)) pa_nil)) pa_nil))) (pk_cons (pe_ix (ix_tupK K) (pv 0) pe_int (fun _ _ => rfl)) pk_nil)))), ?_⟩
    refine ⟨_, rfl, a, _, 0, _, rfl, rfl, SqT.of ha, atI_nat (j := 0) rfl, _, rfl, a, _, 1, _, rfl, rfl, SqT.of ha, atI_nat (j := 1) rfl, _, rfl, a, _, 2, _, rfl, rfl, SqT.of ha, atI_nat (j := 2) rfl, l, vs, rfl, .inl (SqL.of hl), fun p hp => ?_⟩
    have s1 := same_new (o := .lst vs) hp
    refine ⟨_, rfl, a, _, 3, _, rfl, rfl, SqT.of (s1 _ _ ha), atI_nat (j := 3) rfl, rfl, rfl, fun x dx hx hd ne => ?_⟩
    have s2 := made_to (C := He.ga K "Opponent") hx hd ne
    have s12 := s1.trans s2
    exact ⟨x, dx, p, r, rfl, upd_same, ⟨vs, s2 _ _ upd_same, paired_imp pw fun v row q => q.mono (.of s12)⟩, ok, fun H' y mv => ⟨rfl, k x H' (s1.trans (made_same hx hd ne y)) mv⟩⟩
end
end K42
set_option Elab.async false
set_option linter.all false
set_option maxRecDepth 100000
set_option maxHeartbeats 4000000
namespace K42
open PySem PySem.Spec PyProof.Rows L2

open SX
theorem bag_ne {H : Hp} {b bq l : Addr} {vs : List V} (B : BagV H b bq) (h : H l = some (.lst vs)) (all : ∀ v ∈ vs, ∃ p, v = .ref p) : l ≠ b := fun e => by
  obtain ⟨ns, i, d, sv, B⟩ := B
  rw [e, B.hb] at h
  have e2 := HO.lst.inj (Option.some.inj h)
  obtain ⟨p, e3⟩ := all (.int i) (by rw [← e2]; simp)
  cases e3
theorem paired_all {α β : Type} {F : α → β → Prop} {P : α → Prop} (hF : ∀ a b, F a b → P a) : ∀ {l₁ : List α} {l₂ : List β}, Paired F l₁ l₂ → ∀ a ∈ l₁, P a
  | _, _, .nil, _, h => by cases h
  | _, _, .cons r t, a, h => by
    rcases List.mem_cons.mp h with e | e
    · exact e ▸ hF _ _ r
    · exact paired_all hF t a e
theorem TabP.monoB {α : Type} {F : Hp → V → α → Prop} (hF : ∀ {H H' : Hp} {v : V} {e : α}, TSame H H' → F H v e → F H' v e) {H H' : Hp} {b bq l : Addr} {tb : List (List α)} (B : BagV H b bq) (x : SameX b H H') (h : TabP F H l tb) : TabP F H' l tb := by
  obtain ⟨vs, h1, h2⟩ := h
  have n := bag_ne B h1 (paired_all (fun v row r => let ⟨p, _, e, _⟩ := r; ⟨p, e⟩) h2)
  exact ⟨vs, x _ _ n h1, paired_imp h2 fun v row r => TupOf.monoT (F := F) (fun t q => hF t q) (x.tsB B) r⟩
theorem OpTab.monoB {H H' : Hp} {b bq l : Addr} {tb : List (Nat × List Nat)} (B : BagV H b bq) (x : SameX b H H') (h : OpTab H l tb) : OpTab H' l tb := by
  obtain ⟨vs, h1, h2⟩ := h
  have n := bag_ne B h1 (paired_all (fun v row r => let ⟨p, _, e, _⟩ := r; ⟨p, e⟩) h2)
  exact ⟨vs, x _ _ n h1, paired_imp h2 fun v row r => r.mono (x.tsB B)⟩
theorem RawV.monoB {H H' : Hp} {b bq a : Addr} {r : Raw} (B : BagV H b bq) (x : SameX b H H') (h : RawV H a r) : RawV H' a r := let ⟨l, h1, h2⟩ := h; ⟨l, x.tsB B _ _ h1, h2.monoB (fun t q => q.mono t) B x⟩
theorem MacV.monoB {K : PySem.W.Frag} {H H' : Hp} {b bq a : Addr} {r : Raw} (B : BagV H b bq) (x : SameX b H H') (h : MacV K H a r) : MacV K H' a r := by
  obtain ⟨dx, l, h1, h2⟩ := h
  obtain ⟨L, hb⟩ := B.lst
  exact ⟨dx, l, x _ _ (ne_of h1 hb (fun e => nomatch e)) h1, h2.monoB (fun t q => q.mono t) B x⟩
theorem TrV.monoB {K : PySem.W.Frag} {H H' : Hp} {b bq a : Addr} {r : Tr} (B : BagV H b bq) (x : SameX b H H') (h : TrV K H a r) : TrV K H' a r := by
  obtain ⟨dx, l, h1, h2⟩ := h
  obtain ⟨L, hb⟩ := B.lst
  exact ⟨dx, l, x _ _ (ne_of h1 hb (fun e => nomatch e)) h1, h2.monoB (fun t q => q.mono t) B x⟩
theorem RawV.tup {H : Hp} {a : Addr} {r : Raw} (h : RawV H a r) : ∃ l, H a = some (.tup [.str (S r.ls), .ref l, .int r.st]) := let ⟨l, h1, _⟩ := h; ⟨l, h1⟩
theorem row_ok {L : List Nat} (hL : ∀ x ∈ L, x < 1114112) {r : Wd × Wd} (h : ∀ x ∈ r.1 ++ r.2, x ∈ L) : PyData.strOk (S r.1) = true ∧ PyData.strOk (S r.2) = true :=
  ⟨strOk_S fun x hx => hL x (h x (List.mem_append_left _ hx)), strOk_S fun x hx => hL x (h x (List.mem_append_right _ hx))⟩
def TFau (H : Hp) (r1 r2 : Raw) (t : Tr) (op : Bool) (v : V) : Prop := ∃ (q b' : Addr) (kind : Str) (r P' : Wd × Wd) (x y : Int), v = .ref q ∧ H q = some (.tup [.str kind, .ref b']) ∧ RowAt H b' r ∧ NF r ∧ Eqv P' r ∧ r.1.length ≤ 60 ∧ r.2.length ≤ 300 ∧ Lasso (pdT r1 r2 t) r1.st t.st r2.st P'.1 P'.2 x y ∧
  ((kind = "waits" ∧ y = -1) ∨ (kind = "verdict" ∧ ∃ X Y : Nat, x = X ∧ y = Y ∧ ((X : Int) + Y) % 2 = 1 - (if op = true then 1 else 0)))
def OFau (H : Hp) (r1 r2 : Raw) (t : Op) (w : Bool) (v : V) : Prop := ∃ (q b' : Addr) (r P' : Wd × Wd) (X Y : Nat), v = .ref q ∧ H q = some (.tup [.str "verdict", .ref b']) ∧ RowAt H b' r ∧ NF r ∧ Eqv P' r ∧ r.1.length ≤ 60 ∧ r.2.length ≤ 300 ∧ Lasso (pdO r1 r2 t w) r1.st t.st r2.st P'.1 P'.2 X Y ∧ ((X : Int) + Y) % 2 = 0
theorem fnok_of {P : Program} {w : World} {K : PySem.W.Frag} {mg : Str → Option Value} {base : Heap} {x : Str} {st : Stmt} {f : Addr} {fd : FuncData} {k : Nat} {N ps : List Str} {sp : Sp} (F : FunD K x x (defArgs st) (defBody st) (defScope st) [] [] f fd) (S : FnScope N ps (defScope st))
    (len : ∀ vs H Q E, sp vs H Q E → vs.length = ps.length)
    (hbody : ∀ (cdv : Value) (A : Around) (outer : List Env) (s : Shared) (H : Hp) (vs : List V) (Q : VK) (E : XK), Room k (A.deeper (envOfC x (defScope st) s.heap.objs.size f cdv)) → sp vs H Q E →
      ∃ t, PSs (cxOf CX0 P w K mg base N x (defScope st) f cdv A outer s H E).nox (defBody st) t ∧ t { nx := fun _ H' => Q .non H', rt := Q } (start N vs) H) : FnOk P w K mg base CX0 (k + 1) f fd ps sp := by
  refine F.ok S len (fun cdv A outer s H vs Q E hr h => ?_)
  obtain ⟨t, h1, h2⟩ := hbody cdv A outer s H vs Q E hr h
  exact ⟨t, h1.nox, h2⟩
def sp_law (K : PySem.W.Frag) : Sp := fun vs H Q _ => ∃ (a : Addr) (ns : List Int), vs = [.ref a] ∧ SqL K H a (ns.map V.int) ∧ ∀ H', Q (.bl true) H'
section
variable {P : Program} {w : World} {K : PySem.W.Frag} {mg : Str → Option Value} {base : Heap}
theorem sc_law : FnScope ["_law_script", "_law_bag_here", "_law_turn", "_law_letters_here", "_law_one", "_law_other", "_law_first", "_law_second", "_law_told_here", "_law_rival_here", "_law_flag", "_law_fault"] ["_law_script"] (defScope s_g_law) := ⟨rfl, rfl, rfl, by decide +kernel, rfl, by decide +kernel, by decide +kernel⟩
theorem ok_law {fd : FuncData} (T : Tp K mg) (F : FunD K "law" "law" (defArgs s_g_law) (defBody s_g_law) (defScope s_g_law) [] [] (He.ga K "law") fd) (G_law_bag : GOk P w K mg base "_law_bag" 1 ["_law_script"] (sp_law_bag K)) (G_law_letters : GOk P w K mg base "_law_letters" 3 ["_law_bag_here"] sp_law_letters) (G_law_raw : GOk P w K mg base "_law_raw" 2 ["_law_bag_here", "_law_letters_here", "_law_most", "_law_top"] sp_law_raw) (G_law_of : GOk P w K mg base "_law_of" 2 ["_law_bag_here", "_law_items"] sp_law_of) (G_law_made : GOk P w K mg base "_law_made" 5 ["_law_raw_here"] (sp_law_made K)) (G_law_translator : GOk P w K mg base "_law_translator" 5 ["_law_told_here"] (sp_law_translator K)) (G_law_told : GOk P w K mg base "_law_told" 3 ["_law_bag_here", "_law_source", "_law_target", "_law_most", "_law_share"] sp_law_told) (G_law_opponent : GOk P w K mg base "_law_opponent" 5 ["_law_told_here"] (sp_law_opponent K)) (G_law_rival : GOk P w K mg base "_law_rival" 3 ["_law_bag_here", "_law_source", "_law_target", "_law_most"] sp_law_rival) (G_check_translator : GKOk P w K mg base "check_translator" 6 3 ["opposite"] ["one", "other", "translator", "opposite"] (sp_check_translator K)) (G_law_translator_fault : GOk P w K mg base "_law_translator_fault" 4 ["_law_one", "_law_other", "_law_told_here", "_law_fault", "_law_flip"] (sp_law_translator_fault K)) (G_law_normal : GOk P w K mg base "_law_normal" 1 ["_law_row"] sp_law_normal) (G_check_opponent : GKOk P w K mg base "check_opponent" 6 3 ["waits"] ["one", "other", "opponent", "waits"] (sp_check_opponent K)) (G_law_opponent_fault : GOk P w K mg base "_law_opponent_fault" 4 ["_law_one", "_law_other", "_law_told_here", "_law_row"] (sp_law_opponent_fault K)) : FnOk P w K mg base CX0 7 (He.ga K "law") fd ["_law_script"] (sp_law K) := by
  refine fnok_of (st := s_g_law) F sc_law (fun vs H Q E h => ?_) (fun cdv A outer s H vs Q E hr h => ?_)
  · obtain ⟨a, ns, rfl, _⟩ := h
    rfl
  · obtain ⟨a, ns, rfl, hS, k⟩ := h
    have hu := hu_of hr
    refine ⟨_, (pss_cons (ps_set (i := 1) sc_law.nd rfl (by first | exact Or.inl rfl | exact Or.inr rfl) (pe_g G_law_bag (hr.mono (by decide)) (pa_cons (pv 0) pa_nil)))
      (pss_cons (ps_for PassesOwn.never rfl (pi_range1 (by rfl) T.b_range (pa_cons pe_int pa_nil)) (pg_name (i := 2) sc_law.nd rfl (by first | exact Or.inl rfl | exact Or.inr rfl)) (pss_cons (ps_set (i := 3) sc_law.nd rfl (by first | exact Or.inl rfl | exact Or.inr rfl) (pe_g G_law_letters (hr.mono (by decide)) (pa_cons (pv 1) pa_nil)))
      (pss_cons (ps_set (i := 4) sc_law.nd rfl (by first | exact Or.inl rfl | exact Or.inr rfl) (pe_g G_law_raw (hr.mono (by decide)) (pa_cons (pv 1) (pa_cons (pv 3) (pa_cons pe_int (pa_cons pe_int pa_nil))))))
      (pss_cons (ps_set (i := 5) sc_law.nd rfl (by first | exact Or.inl rfl | exact Or.inr rfl) (pe_g G_law_raw (hr.mono (by decide)) (pa_cons (pv 1) (pa_cons (pe_g G_law_of (hr.mono (by decide)) (pa_cons (pv 1) (pa_cons (pe_lst (pa_cons (pv 3) (pa_cons (pe_g G_law_letters (hr.mono (by decide)) (pa_cons (pv 1) pa_nil)) pa_nil))) pa_nil))) (pa_cons pe_int (pa_cons pe_int pa_nil))))))
      (pss_cons (ps_par (i := 6) (j := 7) (by rfl) sc_law.nd rfl rfl (by decide) rfl rfl (pa_cons (pe_g G_law_made (hr.mono (by decide)) (pa_cons (pv 4) pa_nil)) (pa_cons (pe_g G_law_made (hr.mono (by decide)) (pa_cons (pv 5) pa_nil)) pa_nil)) (by rfl))
      (pss_cons (ps_set (i := 8) sc_law.nd rfl (by first | exact Or.inl rfl | exact Or.inr rfl) (pe_g G_law_translator (hr.mono (by decide)) (pa_cons (pe_g G_law_told (hr.mono (by decide)) (pa_cons (pv 1) (pa_cons (pe_ix (ix_tupK K) (pv 4) pe_int (fun _ _ => rfl)) (pa_cons (pe_ix (ix_tupK K) (pv 5) pe_int (fun _ _ => rfl)) (pa_cons pe_int (pa_cons (pe_g G_law_of (hr.mono (by decide)) (pa_cons (pv 1) (pa_cons (pe_lst (pa_cons pe_int (pa_cons pe_int (pa_cons pe_int pa_nil)))) pa_nil))) pa_nil)))))) pa_nil)))
      (pss_cons (ps_set (i := 9) sc_law.nd rfl (by first | exact Or.inl rfl | exact Or.inr rfl) (pe_g G_law_opponent (hr.mono (by decide)) (pa_cons (pe_g G_law_rival (hr.mono (by decide)) (pa_cons (pv 1) (pa_cons (pe_ix (ix_tupK K) (pv 4) pe_int (fun _ _ => rfl)) (pa_cons (pe_ix (ix_tupK K) (pv 5) pe_int (fun _ _ => rfl)) (pa_cons pe_int pa_nil))))) pa_nil)))
      (pss_one (ps_for PassesOwn.never rfl (pi_list (pe_lst (pa_cons pe_bl (pa_cons pe_bl pa_nil)))) (pg_name (i := 10) sc_law.nd rfl (by first | exact Or.inl rfl | exact Or.inr rfl)) (Evl.pss_cut (ps_set (i := 11) sc_law.nd rfl (by first | exact Or.inl rfl | exact Or.inr rfl) (pe_gk G_check_translator (hr.mono (by decide)) (pa_cons (pv 6) (pa_cons (pv 7) (pa_cons (pv 8) pa_nil))) (pk_cons (pv 10) pk_nil)))
      (Evl.pss_cut (ps_if (pt_cmpR op_notN (pv 11) pe_non (nomark _)) (pss_one (ps_if (PW.pt (pw_or (pt_cmpR op_ne (pe_callB (len_seqK K) (by rfl) T.b_len PySem.boot_len (pa_cons (pv 11) pa_nil)) pe_int (nomark _)) (pw_or (pt_cmpR (op_neD hr.units) (pe_ix (ix_tupK K) (pv 11) pe_int (fun _ _ => rfl)) (pe_g G_law_normal (hr.mono (by decide)) (pa_cons (pe_ix (ix_tupK K) (pv 11) pe_int (fun _ _ => rfl)) pa_nil)) (nomark _)) (pw_or1 (pt_not (pt_val (pe_g G_law_translator_fault (hr.mono (by decide)) (pa_cons (pv 4) (pa_cons (pv 5) (pa_cons (pv 8) (pa_cons (pv 11) (pa_cons (pv 10) pa_nil)))))))))))) (pss_one (ps_ret pe_bl)) pss_nil)) pss_nil)
      (Evl.pss_cut (ps_set (i := 11) sc_law.nd rfl (by first | exact Or.inl rfl | exact Or.inr rfl) (pe_gk G_check_opponent (hr.mono (by decide)) (pa_cons (pv 6) (pa_cons (pv 7) (pa_cons (pv 9) pa_nil))) (pk_cons (pv 10) pk_nil)))
      (pss_one (ps_if (pt_cmpR op_notN (pv 11) pe_non (nomark _)) (pss_cons (ps_if (PW.pt (pw_or (pt_not (pt_val (pe_callB call_isi (by rfl) T.b_isinstance (by decide +kernel) (pa_cons (pv 11) (pa_cons (pe_bltn (v := .ty "tuple") rfl T.b_tuple (by decide +kernel) rfl) pa_nil))))) (pw_or (pt_cmpR (op_neD hr.units) (pe_ix (ix_tupK K) (pv 11) pe_int (fun _ _ => rfl)) (pe_g G_law_normal (hr.mono (by decide)) (pa_cons (pe_ix (ix_tupK K) (pv 11) pe_int (fun _ _ => rfl)) pa_nil)) (nomark _)) (pw_or (pt_cmpR op_ne (pe_ix (ix_tupK K) (pv 11) pe_int (fun _ _ => rfl)) pe_str (nomark _)) (pw_or1 (pt_not (pt_val (pe_g G_law_opponent_fault (hr.mono (by decide)) (pa_cons (pv 4) (pa_cons (pv 5) (pa_cons (pv 9) (pa_cons (pe_ix (ix_tupK K) (pv 11) pe_int (fun _ _ => rfl)) pa_nil)))))))))))) (pss_one (ps_ret pe_bl)) pss_nil)
      (pss_one (ps_if (PW.pt (pw_and (pt_not (pt_val (pv 10))) (pw_and1 (pt_cmpR op_in_sign pe_str (pe_op op_add_str (pe_ix (ix_tupK K) (pe_ix (ix_tupK K) (pv 11) pe_int (fun _ _ => rfl)) pe_int (fun _ _ => rfl)) (pe_ix (ix_tupK K) (pe_ix (ix_tupK K) (pv 11) pe_int (fun _ _ => rfl)) pe_int (fun _ _ => rfl))) (by rfl))))) (pss_one (ps_ret pe_bl)) pss_nil))) pss_nil))))))))))))))
      (pss_one (ps_ret pe_bl)))), ?_⟩
    refine ⟨_, rfl, a, ns, rfl, hS, fun b bq H1 s1 B1 => ?_⟩
    refine ⟨_, rfl, (by decide), (by decide), ?_⟩
    refine for_it walk_range (fun i σ H' => ∃ r2 r3 r4 r5 r6 r7 r8 r9 r10 r11, σ = [some (V.ref a), some (V.ref b), r2, r3, r4, r5, r6, r7, r8, r9, r10, r11] ∧ BagV H' b bq) ?_ (fun _ _ _ _ _ => trivial) ?_ ?_
    · exact ⟨_, _, _, _, _, _, _, _, _, _, rfl, B1⟩
    · rintro i x σ H2 H3 hi ⟨r2, r3, r4, r5, r6, r7, r8, r9, r10, r11, rfl, B2⟩ ⟨rfl, rfl⟩
      refine ⟨_, rfl, b, bq, rfl, B2, fun ls H4 al x4 B4 => ?_⟩
      refine ⟨_, rfl, _, rfl, b, bq, ls, rfl, B4, al, fun oa r1 H5 e5 o1 R1 x5 B5 => ?_⟩
      refine ⟨_, rfl, _, rfl, _, rfl, _, rfl, b, bq, rfl, B5, fun ls2 H6 al2 x6 B6 => ⟨(by show 2 ≤ sizeLine; decide), fun p hp => ?_⟩⟩
      have R1 := R1.monoB B5 x6
      have s7 := same_new (o := .lst [V.str (S ls), V.str (S ls2)]) hp
      refine ⟨b, bq, p, _, rfl, B6.mono s7, upd_same, B6.ne hp, (by show 1 ≤ 2; decide), (by show 2 ≤ 100; decide), fun v H8 hv x8 B8 => ?_⟩
      have R1 := (R1.mono s7).monoB (B6.mono s7) x8
      obtain ⟨ls3, rfl, al3⟩ : ∃ ls3, v = .str (S ls3) ∧ Alpha ls3 := by
        rcases List.mem_cons.mp hv with e | hv
        · exact ⟨_, e, al⟩
        · have e : v = .str (S ls2) := by simpa using hv
          exact ⟨_, e, al2⟩
      refine ⟨b, bq, ls3, rfl, B8, al3, fun ob r2' H9 e9 o2 R2 x9 B9 => ?_⟩
      have R1 := R1.monoB B8 x9
      clear x4 x5 x6 x8 x9 B2 B4 B5 B6 B8 s7 hp hv
      refine ⟨_, rfl, oa, r1, rfl, R1, o1, fun ma H10 s10 M1 => ⟨_, rfl, ob, r2', rfl, R2.mono s10, o2, fun mb H11 s11 M2 => ⟨_, _, rfl, ?_⟩⟩⟩
      have M1 := M1.mono s11
      have R1 := R1.mono (s10.trans s11)
      have R2 := R2.mono (s10.trans s11)
      have B11 := B9.mono (s10.trans s11)
      clear s10 s11 B9
      obtain ⟨l1, h1⟩ := R1.tup
      obtain ⟨l2, h2⟩ := R2.tup
      refine ⟨_, rfl, _, rfl, oa, _, 0, _, rfl, rfl, SqT.of h1, atI_nat (j := 0) rfl, _, rfl, ob, _, 0, _, rfl, rfl, SqT.of h2, atI_nat (j := 0) rfl, ?_⟩
      refine ⟨_, rfl, (by show 3 ≤ sizeLine; decide), fun p hp => ?_⟩
      have s12 := same_new (o := .lst [V.int 2, V.int 6, V.int 20]) hp
      refine ⟨b, bq, p, _, rfl, B11.mono s12, upd_same, B11.ne hp, by decide, by decide, fun v H13 hv x13 B13 => ?_⟩
      obtain ⟨sh, rfl, sh1, sh2⟩ : ∃ sh : Int, v = .int sh ∧ 1 ≤ sh ∧ sh ≤ 1000 := by
        rcases List.mem_cons.mp hv with e | hv
        · exact ⟨_, e, by decide, by decide⟩
        rcases List.mem_cons.mp hv with e | hv
        · exact ⟨_, e, by decide, by decide⟩
        · have e : v = .int 20 := by simpa using hv
          exact ⟨_, e, by decide, by decide⟩
      have x13 := (SameX.of s12).trans x13
      refine ⟨b, bq, r1.ls, r2'.ls, sh, rfl, B13, o1.al, o2.al, sh1, sh2, fun ta t H14 et1 et2 ot TV x14 B14 => ?_⟩
      have x14 := x13.trans x14
      refine ⟨ta, t, rfl, TV, ot, fun tm H15 s15 MT => ?_⟩
      have x15 := x14.then s15
      have M1 := M1.monoB B11 x15
      have M2 := M2.monoB B11 x15
      have R1 := R1.monoB B11 x15
      have R2 := R2.monoB B11 x15
      have B15 := B14.mono s15
      clear x13 x14 x15 B11 B13 B14 s12 s15 hp hv h1 h2 TV
      obtain ⟨l1, h1⟩ := R1.tup
      obtain ⟨l2, h2⟩ := R2.tup
      refine ⟨_, rfl, _, rfl, oa, _, 0, _, rfl, rfl, SqT.of h1, atI_nat (j := 0) rfl, _, rfl, ob, _, 0, _, rfl, rfl, SqT.of h2, atI_nat (j := 0) rfl, ?_⟩
      refine ⟨b, bq, r1.ls, r2'.ls, rfl, B15, o1.al, o2.al, fun oa2 t2 H16 eo1 eo2 ot2 OV x16 B16 => ?_⟩
      refine ⟨oa2, t2, rfl, OV, ot2, fun om H17 s17 MO => ?_⟩
      have x17 := x16.then s17
      have M1 := M1.monoB B15 x17
      have M2 := M2.monoB B15 x17
      have MT := MT.monoB B15 x17
      have R1 := R1.monoB B15 x17
      have R2 := R2.monoB B15 x17
      have B17 := B16.mono s17
      clear x16 x17 B15 B16 s17 h1 h2 OV
      refine ⟨(by show 2 ≤ sizeLine; decide), fun p hp => ?_⟩
      have s18 := same_new (o := .lst [V.bl false, V.bl true]) hp
      have hp18 : (upd H17 p (.lst [V.bl false, V.bl true])) p = some (.lst [V.bl false, V.bl true]) := upd_same
      have M1 := M1.mono s18
      have M2 := M2.mono s18
      have MT := MT.mono s18
      have MO := MO.mono s18
      have R1 := R1.mono s18
      have R2 := R2.mono s18
      have B18 := B17.mono s18
      generalize upd H17 p (.lst [V.bl false, V.bl true]) = H18 at M1 M2 MT MO R1 R2 B18 hp18 ⊢
      clear B17 s18 hp
      refine ⟨p, rfl, ⟨_, SqL.of hp18⟩, ?_⟩
      refine for_it (walk_list (xs := [V.bl false, V.bl true])) (fun j σ H' => ∃ r10 r11, σ = [some (V.ref a), some (V.ref b), some (V.int (0 + (i : Int))), some (V.str (S ls)), some (V.ref oa), some (V.ref ob), some (V.ref ma), some (V.ref mb), some (V.ref tm), some (V.ref om), r10, r11] ∧ Same H18 H') ⟨_, _, rfl, Same.refl _⟩ (fun j σ H' _ ⟨_, _, _, s⟩ => SqL.of (s _ _ hp18)) ?_ ?_
      · rintro j x σ H19 H20 hj ⟨r10, r11, rfl, s19⟩ ⟨rfl, hx⟩
        obtain ⟨f, rfl⟩ : ∃ f : Bool, x = .bl f := by
          have := List.mem_of_getElem? hx
          rcases List.mem_cons.mp this with e | h
          · exact ⟨_, e⟩
          · have e : x = .bl true := by simpa using h
            exact ⟨_, e⟩
        have M1 := M1.mono s19
        have M2 := M2.mono s19
        have MT := MT.mono s19
        have MO := MO.mono s19
        have R1 := R1.mono s19
        have R2 := R2.mono s19
        refine ⟨fun σ' H' => ∃ v, σ' = [some (V.ref a), some (V.ref b), some (V.int (0 + (i : Int))), some (V.str (S ls)), some (V.ref oa), some (V.ref ob), some (V.ref ma), some (V.ref mb), some (V.ref tm), some (V.ref om), some (V.bl f), some v] ∧ Same H20 H' ∧ (v = .non ∨ TFau H' r1 r2' t f v), ?_, ?_⟩
        · refine ⟨_, rfl, _, rfl, _, rfl, _, rfl, rfl, rfl, ma, mb, tm, f, r1, r2', t, rfl, M1, M2, MT, o1, o2, ot, et1, et2, fun H21 s21 => ?_, fun q b' r H21 P C x s21 hq hr nf E q1 q2 ls => ?_, fun q b' r H21 P C x y s21 hq hr nf E q1 q2 ls par => ?_⟩
          · exact ⟨_, rfl, s21, .inl rfl⟩
          · exact ⟨_, rfl, s21, .inr ⟨q, b', _, r, (P, C), x, -1, rfl, hq, hr, nf, E, q1, q2, ls, .inl ⟨rfl, rfl⟩⟩⟩
          · exact ⟨_, rfl, s21, .inr ⟨q, b', _, r, (P, C), x, y, rfl, hq, hr, nf, E, q1, q2, ls, .inr ⟨rfl, x, y, rfl, rfl, par⟩⟩⟩
        rintro σ' H21 ⟨v, rfl, s21, hv⟩
        refine ⟨fun σ' H' => ∃ v, σ' = [some (V.ref a), some (V.ref b), some (V.int (0 + (i : Int))), some (V.str (S ls)), some (V.ref oa), some (V.ref ob), some (V.ref ma), some (V.ref mb), some (V.ref tm), some (V.ref om), some (V.bl f), some v] ∧ Same H20 H', ?_, ?_⟩
        · rcases hv with rfl | ⟨q, b', kind, r, ⟨P, C⟩, x, y, rfl, hq, hr, nf, E, q1, q2, lss, hk⟩
          · refine ⟨_, rfl, rfl, _, rfl, ?_⟩
            exact iteF ⟨_, rfl, s21⟩
          · refine ⟨_, rfl, rfl, _, rfl, ?_⟩
            refine iteT ?_
            refine ⟨_, rfl, q, _, rfl, .inr (SqT.of hq), rfl, _, rfl, ?_⟩
            refine iteF ?_
            refine ⟨_, rfl, q, _, 1, _, rfl, rfl, SqT.of hq, atI_nat (j := 1) rfl, _, rfl, q, _, 1, _, rfl, rfl, SqT.of hq, atI_nat (j := 1) rfl, b', r, rfl, hr, nf.1.1, by omega, by omega, fun b2 r' H22 s22 hr2 enf _ _ _ => ?_⟩
            have er := enf nf
            subst er
            obtain ⟨k1, k2⟩ := row_ok (L := r1.ls) (fun x hx => lower_small x (o1.al.low x hx)) (r := r') fun z hz => lss.mem z (eqv_mem E.symm hz)
            refine ⟨_, _, .tup (SqT.of (s22 _ _ hr)) (.cons (.str _) (.cons (.str _) .nil)), .tup (SqT.of hr2) (.cons (.str _) (.cons (.str _) .nil)), shaped_two k1 k2, shaped_two k1 k2, _, rfl, ?_⟩
            rw [ne_two k1 k2]
            refine iteF ?_
            have s2 := s21.trans s22
            refine ⟨_, rfl, _, rfl, _, rfl, _, rfl, _, rfl, oa, ob, tm, q, b', f, r1, r2', t, kind, r', P, C, x, y, rfl, R1.mono s2, R2.mono s2, MT.mono s2, o1, o2, ot, et1, et2, s22 _ _ hq, s22 _ _ hr, nf, E, q1, q2, lss, hk, fun H23 s23 => ⟨_, rfl, ?_⟩⟩
            exact iteF ⟨_, rfl, s2.trans s23⟩
        rintro σ' H22 ⟨v, rfl, s22⟩
        clear hv s21
        refine ⟨fun σ' H' => ∃ v, σ' = [some (V.ref a), some (V.ref b), some (V.int (0 + (i : Int))), some (V.str (S ls)), some (V.ref oa), some (V.ref ob), some (V.ref ma), some (V.ref mb), some (V.ref tm), some (V.ref om), some (V.bl f), some v] ∧ Same H20 H' ∧ (v = .non ∨ OFau H' r1 r2' t2 f v), ?_, ?_⟩
        · refine ⟨_, rfl, _, rfl, _, rfl, _, rfl, rfl, rfl, ma, mb, om, f, r1, r2', t2, rfl, M1.mono s22, M2.mono s22, MO.mono s22, o1, o2, ot2, eo1, eo2, fun H23 s23 => ?_, fun q b' r H23 P C x y s23 hq hr nf E q1 q2 ls par => ?_⟩
          · exact ⟨_, rfl, s22.trans s23, .inl rfl⟩
          · exact ⟨_, rfl, s22.trans s23, .inr ⟨q, b', r, (P, C), x, y, rfl, hq, hr, nf, E, q1, q2, ls, par⟩⟩
        rintro σ' H23 ⟨v, rfl, s23, hv⟩
        rcases hv with rfl | ⟨q, b', r, ⟨P, C⟩, X, Y, rfl, hq, hr, nf, E, q1, q2, lss, par⟩
        · refine ⟨_, rfl, rfl, _, rfl, ?_⟩
          exact iteF ⟨_, _, rfl, s19.trans s23⟩
        · refine ⟨_, rfl, rfl, _, rfl, ?_⟩
          refine iteT ?_
          have memL : ∀ z ∈ r.1 ++ r.2, z ∈ (pdO r1 r2' t2 f).L := fun z hz => lss.mem z (eqv_mem E.symm hz)
          refine ⟨_, rfl, .ref q, .ty "tuple", .type "tuple", .type "tuple", true, rfl, .ty _, .base (.tup hq), by rfl, _, rfl, ?_⟩
          refine iteF ?_
          refine ⟨_, rfl, q, _, 1, _, rfl, rfl, SqT.of hq, atI_nat (j := 1) rfl, _, rfl, q, _, 1, _, rfl, rfl, SqT.of hq, atI_nat (j := 1) rfl, b', r, rfl, hr, nf.1.1, by omega, by omega, fun b2 r' H24 s24 hr2 enf _ _ _ => ?_⟩
          have er := enf nf
          subst er
          have smallL : ∀ z ∈ (pdO r1 r2' t2 f).L, z < 1114112 := fun z hz => by
            rcases (pdO_mem eo2 hz).2 with e | e
            · rw [e]
              decide
            · exact lower_small z (o2.al.low z e)
          obtain ⟨k1, k2⟩ := row_ok smallL (r := r') memL
          refine ⟨_, _, .tup (SqT.of (s24 _ _ hr)) (.cons (.str _) (.cons (.str _) .nil)), .tup (SqT.of hr2) (.cons (.str _) (.cons (.str _) .nil)), shaped_two k1 k2, shaped_two k1 k2, _, rfl, ?_⟩
          rw [ne_two k1 k2]
          refine iteF ?_
          have hq4 := s24 _ _ hq
          have hr4 := s24 _ _ hr
          have s2 := s23.trans s24
          refine ⟨_, rfl, q, _, 0, _, rfl, rfl, SqT.of hq4, atI_nat (j := 0) rfl, rfl, _, rfl, ?_⟩
          refine iteF ?_
          refine ⟨_, rfl, _, rfl, _, rfl, _, rfl, q, _, 1, _, rfl, rfl, SqT.of hq4, atI_nat (j := 1) rfl, oa, ob, om, b', f, r1, r2', t2, r', P, C, X, Y, rfl, R1.mono s2, R2.mono s2, MO.mono s2, o1, o2, ot2, eo1, eo2, hr4, nf, E, q1, q2, lss, par, fun H25 s25 => ⟨_, rfl, ?_⟩⟩
          refine iteF ?_
          have hq5 := s25 _ _ hq4
          have hr5 := s25 _ _ hr4
          refine ⟨_, rfl, f, rfl, ?_⟩
          cases f with
          | true => exact iteF (iteF ⟨_, _, rfl, s19.trans (s2.trans s25)⟩)
          | false =>
            refine iteT ?_
            refine ⟨_, rfl, q, _, 1, _, rfl, rfl, SqT.of hq5, atI_nat (j := 1) rfl, b', _, 0, _, rfl, rfl, SqT.of hr5, atI_nat (j := 0) rfl, _, rfl, q, _, 1, _, rfl, rfl, SqT.of hq5, atI_nat (j := 1) rfl, b', _, 1, _, rfl, rfl, SqT.of hr5, atI_nat (j := 1) rfl, _, _, rfl, rfl, ?_, 45, _, rfl, rfl, _, rfl, ?_⟩
            · rw [S_len, S_len, sizeLine_eq]
              omega
            · have no : decide (45 ∈ (S r'.1 ++ S r'.2).cps.toList) = false := by
                rw [S_cat]
                refine decide_eq_false fun h => ?_
                have h' : 45 ∈ r'.1 ++ r'.2 := h
                have h2 := memL 45 h'
                have h3 : 45 ∈ r2'.ls := by
                  have : 45 ∈ r2'.ls ++ [] := h2
                  rw [List.append_nil] at this
                  exact this
                exact o2.al.n45 h3 rfl
              rw [no]
              exact iteF ⟨_, _, rfl, s19.trans (s2.trans s25)⟩
      · rintro σ H19 ⟨r10, r11, rfl, s19⟩
        exact ⟨_, _, _, _, _, _, _, _, _, _, rfl, B18.mono s19⟩
    · rintro σ H2 ⟨r2, r3, r4, r5, r6, r7, r8, r9, r10, r11, rfl, B2⟩
      exact k H2
end
end K42
set_option Elab.async false
set_option linter.all false
set_option maxRecDepth 100000
set_option maxHeartbeats 4000000
namespace K42
open PySem PySem.Spec PyProof.Rows L2
theorem law_ok {P : Program} {w : World} {K : PySem.W.Frag} {mg : Str → Option Value} {base : Heap} {fd : FuncData} (T : Tp K mg) (F : FunD K "law" "law" (defArgs s_g_law) (defBody s_g_law) (defScope s_g_law) [] [] (He.ga K "law") fd) : FnOk P w K mg base CX0 7 (He.ga K "law") fd ["_law_script"] (sp_law K) := by
  have G_finish_order := ok_finish_order (P := P) (w := w) (base := base) T 
  have G_strong_parts := ok_strong_parts (P := P) (w := w) (base := base) T G_finish_order
  have G_path_between := ok_path_between (P := P) (w := w) (base := base) T 
  have G_passes := ok_passes (P := P) (w := w) (base := base) T 
  have G_bounded := ok_bounded (P := P) (w := w) (base := base) T 
  have G_closed_walk := ok_closed_walk (P := P) (w := w) (base := base) T G_path_between
  have G_cycle_through := ok_cycle_through (P := P) (w := w) (base := base) T G_strong_parts G_passes G_closed_walk
  have G_cycle_with := ok_cycle_with (P := P) (w := w) (base := base) T G_cycle_through G_bounded
  have G_shortest_cycle := ok_shortest_cycle (P := P) (w := w) (base := base) T 
  have G_shortened := ok_shortened (P := P) (w := w) (base := base) T G_shortest_cycle
  have G_law_normal := ok_law_normal (P := P) (w := w) (base := base) T 
  have G_row_along := ok_row_along (P := P) (w := w) (base := base) T G_path_between G_shortened
  have G_parity_fault := ok_parity_fault (P := P) (w := w) (base := base) T G_cycle_with G_row_along
  have G_is_alphabet := ok_is_alphabet (P := P) (w := w) (base := base) T 
  have G_need_alphabet := ok_need_alphabet (P := P) (w := w) (base := base) T G_is_alphabet
  have G_is_state := ok_is_state (P := P) (w := w) (base := base) T 
  have G_Machine := ok_Machine_init (P := P) (w := w) (base := base) T G_need_alphabet G_is_state
  have M_Machine_letters := ok_Machine_letters (P := P) (w := w) (base := base) T 
  have M_Machine_start := ok_Machine_start (P := P) (w := w) (base := base) T 
  have M_Machine_step := ok_Machine_step (P := P) (w := w) (base := base) T 
  have G_is_answer := ok_is_answer (P := P) (w := w) (base := base) T 
  have G_Translator := ok_Translator_init (P := P) (w := w) (base := base) T G_need_alphabet G_is_answer
  have M_Translator_source := ok_Translator_source (P := P) (w := w) (base := base) T 
  have M_Translator_target := ok_Translator_target (P := P) (w := w) (base := base) T 
  have M_Translator_start := ok_Translator_start (P := P) (w := w) (base := base) T 
  have M_Translator_states := ok_Translator_states (P := P) (w := w) (base := base) T 
  have M_Translator_step := ok_Translator_step (P := P) (w := w) (base := base) T 
  have G_is_challenge := ok_is_challenge (P := P) (w := w) (base := base) T 
  have G_Opponent := ok_Opponent_init (P := P) (w := w) (base := base) T G_need_alphabet G_is_challenge
  have M_Opponent_source := ok_Opponent_source (P := P) (w := w) (base := base) T 
  have M_Opponent_target := ok_Opponent_target (P := P) (w := w) (base := base) T 
  have M_Opponent_start := ok_Opponent_start (P := P) (w := w) (base := base) T 
  have M_Opponent_states := ok_Opponent_states (P := P) (w := w) (base := base) T 
  have M_Opponent_letter := ok_Opponent_letter (P := P) (w := w) (base := base) T 
  have M_Opponent_move := ok_Opponent_move (P := P) (w := w) (base := base) T 
  have G_need_letters := ok_need_letters (P := P) (w := w) (base := base) T M_Machine_letters M_Translator_source M_Translator_target M_Opponent_source M_Opponent_target
  have G_translator_edges := ok_translator_edges (P := P) (w := w) (base := base) T M_Machine_start M_Translator_start M_Machine_letters M_Machine_step M_Translator_step
  have G_opponent_edges := ok_opponent_edges (P := P) (w := w) (base := base) T M_Machine_start M_Opponent_start M_Machine_step M_Opponent_letter M_Machine_letters M_Opponent_move
  have G_check_opponent := ok_check_opponent (P := P) (w := w) (base := base) T G_need_letters G_opponent_edges G_parity_fault
  have G_check_translator := ok_check_translator (P := P) (w := w) (base := base) T G_need_letters G_translator_edges G_cycle_through G_bounded G_row_along G_parity_fault
  have G_law_output := ok_law_output (P := P) (w := w) (base := base) T 
  have G_law_image := ok_law_image (P := P) (w := w) (base := base) T G_law_output G_law_normal
  have G_law_step := ok_law_step (P := P) (w := w) (base := base) T 
  have G_law_after := ok_law_after (P := P) (w := w) (base := base) T G_law_step
  have G_law_accepts := ok_law_accepts (P := P) (w := w) (base := base) T G_law_after
  have G_law_written := ok_law_written (P := P) (w := w) (base := base) T 
  have G_law_against := ok_law_against (P := P) (w := w) (base := base) T G_law_written G_law_normal
  have G_law_answer_row := ok_law_answer_row (P := P) (w := w) (base := base) T 
  have G_law_translator_fault := ok_law_translator_fault (P := P) (w := w) (base := base) T G_law_image G_law_accepts M_Translator_start M_Translator_states M_Translator_target M_Translator_source
  have G_law_opponent_fault := ok_law_opponent_fault (P := P) (w := w) (base := base) T G_law_answer_row G_law_against G_law_accepts M_Opponent_start M_Opponent_states M_Opponent_target M_Opponent_source
  have G_law_bag := ok_law_bag (P := P) (w := w) (base := base) T 
  have G_law_pull := ok_law_pull (P := P) (w := w) (base := base) T 
  have G_law_of := ok_law_of (P := P) (w := w) (base := base) T G_law_pull
  have G_law_letters := ok_law_letters (P := P) (w := w) (base := base) T G_law_of
  have G_law_raw := ok_law_raw (P := P) (w := w) (base := base) T G_law_pull
  have G_law_told := ok_law_told (P := P) (w := w) (base := base) T G_law_pull G_law_of
  have G_law_rival := ok_law_rival (P := P) (w := w) (base := base) T G_law_pull G_law_of
  have G_law_made := ok_law_made (P := P) (w := w) (base := base) T G_Machine
  have G_law_translator := ok_law_translator (P := P) (w := w) (base := base) T G_Translator
  have G_law_opponent := ok_law_opponent (P := P) (w := w) (base := base) T G_Opponent
  exact ok_law T F G_law_bag G_law_letters G_law_raw G_law_of G_law_made G_law_translator G_law_told G_law_opponent G_law_rival G_check_translator G_law_translator_fault G_law_normal G_check_opponent G_law_opponent_fault
theorem facts {P : Program} {w : World} {K : PySem.W.Frag} {h : Heap} {mg : Str → Option Value} {f : Addr} (X : K.In h) (G : h.Ns mainGlobals mg) (hfa : mg ("law" : Str) = some (.ref f)) (c : He.SaysD fa fn K) :
    ∃ fd : FuncData, (∀ (s : Shared) (v : Value), BindsTo s fd ⟨[v], []⟩ [("_law_script", v)]) ∧ ∀ base : Heap, K.In base → base.Ns mainGlobals mg → FnOk P w K mg base CX0 7 f fd ["_law_script"] (sp_law K) := by
  have T : Tp K mg := ⟨c, h, X, G⟩
  obtain ⟨fd, F⟩ := T.fd_g_law
  have e := hfa.symm.trans T.g_law
  cases e
  have b := FunD.bindsA (ps := ["_law_script"]) F fun _ _ _ _ _ _ us hl => match us, hl with | [_], _ => rfl
  exact ⟨fd, fun s v => b s [v] rfl, fun base _ _ => law_ok T F⟩
end K42
open PySem PySem.W PySem.Calls PyProof.Rows
theorem PySem.Challenge.cw_echoladder_k42_whole_faults_are_faults_holds : PySem.Challenge.rw_echoladder_k42_whole_faults_are_faults.Holds := by
  w_on; o_law
  refine HandSHeadRun.head_any (r := OpenLaw.row PySem.Challenge.rw_echoladder_k42_whole_faults_are_faults) (q := view (OpenLaw.row PySem.Challenge.rw_echoladder_k42_whole_faults_are_faults).prog [73]) (H := K42.hk) (ob := K42.ob) (M := 6000) (loose := K42.loose) (d := HandSHeadRun.topDef (OpenLaw.row PySem.Challenge.rw_echoladder_k42_whole_faults_are_faults).prog 73) (kwd := []) K42.ob_eq
    (by kernel_rfl) (fun s => by kernel_rfl) K42.run (by kernel_rfl) (by kernel_rfl) (by kernel_rfl) (by rfl) (by first | assumption | decide +kernel) (by decide +kernel) ⟨rfl, rfl, rfl, rfl, rfl, by decide +kernel⟩ ?hw ?hc
  case hw => w_witness2
  case hc =>
    refine L2.walk_ofE (l := PySem.Challenge.rw_echoladder_k42_whole_faults_are_faults) (n := 63) (k := 7) (x := "_law_script") (CX := L2.CX0) rfl (by decide) (by kernel_rfl) ⟨rfl, by decide, by decide⟩ ?F (fun _ _ _ _ z => z)
    intro w mg fa h Y G hmg0
    obtain ⟨K, KX, c⟩ := Y
    have hmg : mg ("law" : PySem.Str) = some (.ref fa) := by
      have e : (HandSHeadRun.topDef (OpenLaw.row PySem.Challenge.rw_echoladder_k42_whole_faults_are_faults).prog 73).name = ("law" : PySem.Str) := by kernel_rfl
      rw [← e]
      exact hmg0
    obtain ⟨fd, hb, hF⟩ := K42.facts (P := (PySem.Challenge.rw_echoladder_k42_whole_faults_are_faults).prog) (w := w) KX G hmg c
    exact ⟨K, fd, K42.sp_law K, KX, hb, fun H a ns hl _ hS => ⟨a, ns, rfl, hS, fun _ => rfl⟩, hF⟩
