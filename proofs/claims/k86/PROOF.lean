import PyProof.Rows.All
import Wide.All
import OpenK.AllK
import Wide.FinOn
import KE.KStateDown
import Lean
import HandS.ForMost
import HandS.Head0
import HandS.Head1
import HandS.Head2
import HandS.HeadEnd
import HandS.HeadHook1
import HandS.HeadHook2
import PySem.Challenge.RW_streamwrights_k86_leads_and_paces
import KE.SortData
import HandS.TupSets
import HandS.SetFor
import HandS.Sort
import HandS.SetBool
import KE.GoesEnum
import KE.GoesMore
import HandS.Zip
import HandS.IsInst
import HandS.Star
import HandS.Flow
import HandS.SortInts
import HandS.Words
import HandS.Codes
import HandS.TupAny
import KE.DataCmp
import HandS.SortRule
import HandS.Style
import HandS.ListItems
import HandS.DictComp
import HandS.OwnEq
import HandS.Ends
import PyProof.ReprRoads
import PyProof.Rows.RegFStrParts
set_option Elab.async false
set_option linter.all false
set_option maxRecDepth 100000
section
set_option maxHeartbeats 0
namespace K86
open PySem PySem.Spec PyProof.Rows L2
/-! ### the text by places -/
def top (i : Nat) : Stmt := PySem.Challenge.pw_streamwrights_k86_leads_and_paces.main.body.getD i (.Pass ⟨0, 0, 0, 0⟩)
abbrev s_is_integer_paces : Stmt := top 7
abbrev s_useful_moves : Stmt := top 9
abbrev s_useful_begins : Stmt := top 10
abbrev s_loop_in : Stmt := top 11
abbrev s_path_lead : Stmt := top 12
abbrev s_lead_of : Stmt := top 13
abbrev s_greatest_leads : Stmt := top 15
abbrev s_least_leads : Stmt := top 16
abbrev s_leads : Stmt := top 17
abbrev s_pace : Stmt := top 18
abbrev s_are_rows : Stmt := top 19
abbrev s_is_between : Stmt := top 20
abbrev s_is_loop : Stmt := top 21
abbrev s_is_useful_run : Stmt := top 22
abbrev s_pace_holds : Stmt := top 23
abbrev s_is_integer_words : Stmt := top 26
abbrev s_is_letter : Stmt := top 28
abbrev s_is_word : Stmt := top 29
abbrev s_is_index : Stmt := top 32
abbrev s_last_of : Stmt := top 33
abbrev s_is_partial : Stmt := top 34
abbrev s_begin_states : Stmt := top 37
abbrev s_end_states : Stmt := top 38
abbrev s_closed_over : Stmt := top 39
abbrev s_reached_states : Stmt := top 40
abbrev s_hopeful_states : Stmt := top 41
abbrev s_useful_states : Stmt := top 42
abbrev s_is_state : Stmt := top 77
abbrev s_is_pair : Stmt := top 78
abbrev s_is_move : Stmt := top 79
abbrev s_ascends : Stmt := top 80
abbrev s_are_pairs : Stmt := top 81
abbrev s_are_moves : Stmt := top 82
abbrev s_law_deck : Stmt := top 85
abbrev s_law_draw : Stmt := top 86
abbrev s_law_pick : Stmt := top 87
abbrev s_law_drawn : Stmt := top 88
abbrev s_law_code : Stmt := top 89
abbrev s_law_spread : Stmt := top 90
abbrev s_law_alive : Stmt := top 91
abbrev s_law_path : Stmt := top 92
abbrev s_law_walk : Stmt := top 93
abbrev s_law_lead : Stmt := top 94
abbrev s_law_is_whole : Stmt := top 95
abbrev s_law_is_between : Stmt := top 96
abbrev s_law_is_ring : Stmt := top 97
abbrev s_law_is_pace : Stmt := top 98
abbrev s_law_farthest : Stmt := top 99
abbrev s_law_strolled : Stmt := top 100
abbrev s_law_most : Stmt := top 101
abbrev s_law_right : Stmt := top 102
abbrev s_law : Stmt := top 103
abbrev s_Longest_init : Stmt := inClass (top 14) 0
abbrev s_Longest_take : Stmt := inClass (top 14) 1
abbrev s_Longest_follow : Stmt := inClass (top 14) 2
abbrev s_Longest_step : Stmt := inClass (top 14) 3
abbrev s_Translator_init : Stmt := inClass (top 83) 0
abbrev s_Translator_eq : Stmt := inClass (top 83) 4
abbrev s_Translator_is_partial_run : Stmt := inClass (top 83) 7
abbrev s_Translator_last_state : Stmt := inClass (top 83) 9
/-! ### the defs -/
def d_is_integer_paces : He.DefD := ⟨("is_integer_paces", none), "is_integer", "is_integer", defArgs s_is_integer_paces, defBody s_is_integer_paces, defScope s_is_integer_paces, [], []⟩
def d_useful_moves : He.DefD := ⟨("useful_moves", none), "useful_moves", "useful_moves", defArgs s_useful_moves, defBody s_useful_moves, defScope s_useful_moves, [], []⟩
def d_useful_begins : He.DefD := ⟨("useful_begins", none), "useful_begins", "useful_begins", defArgs s_useful_begins, defBody s_useful_begins, defScope s_useful_begins, [], []⟩
def d_loop_in : He.DefD := ⟨("loop_in", none), "loop_in", "loop_in", defArgs s_loop_in, defBody s_loop_in, defScope s_loop_in, [], []⟩
def d_path_lead : He.DefD := ⟨("path_lead", none), "path_lead", "path_lead", defArgs s_path_lead, defBody s_path_lead, defScope s_path_lead, [], []⟩
def d_lead_of : He.DefD := ⟨("lead_of", none), "lead_of", "lead_of", defArgs s_lead_of, defBody s_lead_of, defScope s_lead_of, [], []⟩
def d_greatest_leads : He.DefD := ⟨("greatest_leads", none), "greatest_leads", "greatest_leads", defArgs s_greatest_leads, defBody s_greatest_leads, defScope s_greatest_leads, [], []⟩
def d_least_leads : He.DefD := ⟨("least_leads", none), "least_leads", "least_leads", defArgs s_least_leads, defBody s_least_leads, defScope s_least_leads, [], []⟩
def d_leads : He.DefD := ⟨("leads", none), "leads", "leads", defArgs s_leads, defBody s_leads, defScope s_leads, [], []⟩
def d_pace : He.DefD := ⟨("pace", none), "pace", "pace", defArgs s_pace, defBody s_pace, defScope s_pace, [], []⟩
def d_are_rows : He.DefD := ⟨("are_rows", none), "are_rows", "are_rows", defArgs s_are_rows, defBody s_are_rows, defScope s_are_rows, [], []⟩
def d_is_between : He.DefD := ⟨("is_between", none), "is_between", "is_between", defArgs s_is_between, defBody s_is_between, defScope s_is_between, [], []⟩
def d_is_loop : He.DefD := ⟨("is_loop", none), "is_loop", "is_loop", defArgs s_is_loop, defBody s_is_loop, defScope s_is_loop, [], []⟩
def d_is_useful_run : He.DefD := ⟨("is_useful_run", none), "is_useful_run", "is_useful_run", defArgs s_is_useful_run, defBody s_is_useful_run, defScope s_is_useful_run, [], []⟩
def d_pace_holds : He.DefD := ⟨("pace_holds", none), "pace_holds", "pace_holds", defArgs s_pace_holds, defBody s_pace_holds, defScope s_pace_holds, [], []⟩
def d_is_integer_words : He.DefD := ⟨("is_integer_words", none), "is_integer", "is_integer", defArgs s_is_integer_words, defBody s_is_integer_words, defScope s_is_integer_words, [], []⟩
def d_is_letter : He.DefD := ⟨("is_letter", none), "is_letter", "is_letter", defArgs s_is_letter, defBody s_is_letter, defScope s_is_letter, [], []⟩
def d_is_word : He.DefD := ⟨("is_word", none), "is_word", "is_word", defArgs s_is_word, defBody s_is_word, defScope s_is_word, [], []⟩
def d_is_index : He.DefD := ⟨("is_index", none), "is_index", "is_index", defArgs s_is_index, defBody s_is_index, defScope s_is_index, [], []⟩
def d_last_of : He.DefD := ⟨("last_of", none), "last_of", "last_of", defArgs s_last_of, defBody s_last_of, defScope s_last_of, [], []⟩
def d_is_partial : He.DefD := ⟨("is_partial", none), "is_partial", "is_partial", defArgs s_is_partial, defBody s_is_partial, defScope s_is_partial, [], []⟩
def d_begin_states : He.DefD := ⟨("begin_states", none), "begin_states", "begin_states", defArgs s_begin_states, defBody s_begin_states, defScope s_begin_states, [], []⟩
def d_end_states : He.DefD := ⟨("end_states", none), "end_states", "end_states", defArgs s_end_states, defBody s_end_states, defScope s_end_states, [], []⟩
def d_closed_over : He.DefD := ⟨("closed_over", none), "closed_over", "closed_over", defArgs s_closed_over, defBody s_closed_over, defScope s_closed_over, [], []⟩
def d_reached_states : He.DefD := ⟨("reached_states", none), "reached_states", "reached_states", defArgs s_reached_states, defBody s_reached_states, defScope s_reached_states, [], []⟩
def d_hopeful_states : He.DefD := ⟨("hopeful_states", none), "hopeful_states", "hopeful_states", defArgs s_hopeful_states, defBody s_hopeful_states, defScope s_hopeful_states, [], []⟩
def d_useful_states : He.DefD := ⟨("useful_states", none), "useful_states", "useful_states", defArgs s_useful_states, defBody s_useful_states, defScope s_useful_states, [], []⟩
def d_is_state : He.DefD := ⟨("is_state", none), "is_state", "is_state", defArgs s_is_state, defBody s_is_state, defScope s_is_state, [], []⟩
def d_is_pair : He.DefD := ⟨("is_pair", none), "is_pair", "is_pair", defArgs s_is_pair, defBody s_is_pair, defScope s_is_pair, [], []⟩
def d_is_move : He.DefD := ⟨("is_move", none), "is_move", "is_move", defArgs s_is_move, defBody s_is_move, defScope s_is_move, [], []⟩
def d_ascends : He.DefD := ⟨("ascends", none), "ascends", "ascends", defArgs s_ascends, defBody s_ascends, defScope s_ascends, [], []⟩
def d_are_pairs : He.DefD := ⟨("are_pairs", none), "are_pairs", "are_pairs", defArgs s_are_pairs, defBody s_are_pairs, defScope s_are_pairs, [], []⟩
def d_are_moves : He.DefD := ⟨("are_moves", none), "are_moves", "are_moves", defArgs s_are_moves, defBody s_are_moves, defScope s_are_moves, [], []⟩
def d_law_deck : He.DefD := ⟨("_law_deck", none), "_law_deck", "_law_deck", defArgs s_law_deck, defBody s_law_deck, defScope s_law_deck, [], []⟩
def d_law_draw : He.DefD := ⟨("_law_draw", none), "_law_draw", "_law_draw", defArgs s_law_draw, defBody s_law_draw, defScope s_law_draw, [], []⟩
def d_law_pick : He.DefD := ⟨("_law_pick", none), "_law_pick", "_law_pick", defArgs s_law_pick, defBody s_law_pick, defScope s_law_pick, [], []⟩
def d_law_drawn : He.DefD := ⟨("_law_drawn", none), "_law_drawn", "_law_drawn", defArgs s_law_drawn, defBody s_law_drawn, defScope s_law_drawn, [], []⟩
def d_law_code : He.DefD := ⟨("_law_code", none), "_law_code", "_law_code", defArgs s_law_code, defBody s_law_code, defScope s_law_code, [], []⟩
def d_law_spread : He.DefD := ⟨("_law_spread", none), "_law_spread", "_law_spread", defArgs s_law_spread, defBody s_law_spread, defScope s_law_spread, [], []⟩
def d_law_alive : He.DefD := ⟨("_law_alive", none), "_law_alive", "_law_alive", defArgs s_law_alive, defBody s_law_alive, defScope s_law_alive, [], []⟩
def d_law_path : He.DefD := ⟨("_law_path", none), "_law_path", "_law_path", defArgs s_law_path, defBody s_law_path, defScope s_law_path, [], []⟩
def d_law_walk : He.DefD := ⟨("_law_walk", none), "_law_walk", "_law_walk", defArgs s_law_walk, defBody s_law_walk, defScope s_law_walk, [], []⟩
def d_law_lead : He.DefD := ⟨("_law_lead", none), "_law_lead", "_law_lead", defArgs s_law_lead, defBody s_law_lead, defScope s_law_lead, [], []⟩
def d_law_is_whole : He.DefD := ⟨("_law_is_whole", none), "_law_is_whole", "_law_is_whole", defArgs s_law_is_whole, defBody s_law_is_whole, defScope s_law_is_whole, [], []⟩
def d_law_is_between : He.DefD := ⟨("_law_is_between", none), "_law_is_between", "_law_is_between", defArgs s_law_is_between, defBody s_law_is_between, defScope s_law_is_between, [], []⟩
def d_law_is_ring : He.DefD := ⟨("_law_is_ring", none), "_law_is_ring", "_law_is_ring", defArgs s_law_is_ring, defBody s_law_is_ring, defScope s_law_is_ring, [], []⟩
def d_law_is_pace : He.DefD := ⟨("_law_is_pace", none), "_law_is_pace", "_law_is_pace", defArgs s_law_is_pace, defBody s_law_is_pace, defScope s_law_is_pace, [], []⟩
def d_law_farthest : He.DefD := ⟨("_law_farthest", none), "_law_farthest", "_law_farthest", defArgs s_law_farthest, defBody s_law_farthest, defScope s_law_farthest, [], []⟩
def d_law_strolled : He.DefD := ⟨("_law_strolled", none), "_law_strolled", "_law_strolled", defArgs s_law_strolled, defBody s_law_strolled, defScope s_law_strolled, [], []⟩
def d_law_most : He.DefD := ⟨("_law_most", none), "_law_most", "_law_most", defArgs s_law_most, defBody s_law_most, defScope s_law_most, [], []⟩
def d_law_right : He.DefD := ⟨("_law_right", none), "_law_right", "_law_right", defArgs s_law_right, defBody s_law_right, defScope s_law_right, [], []⟩
def d_law : He.DefD := ⟨("law", none), "law", "law", defArgs s_law, defBody s_law, defScope s_law, [], []⟩
def d_Longest_init : He.DefD := ⟨("Longest", some "__init__"), "__init__", "Longest.__init__", defArgs s_Longest_init, defBody s_Longest_init, defScope s_Longest_init, [], []⟩
def d_Longest_take : He.DefD := ⟨("Longest", some "take"), "take", "Longest.take", defArgs s_Longest_take, defBody s_Longest_take, defScope s_Longest_take, [], []⟩
def d_Longest_follow : He.DefD := ⟨("Longest", some "follow"), "follow", "Longest.follow", defArgs s_Longest_follow, defBody s_Longest_follow, defScope s_Longest_follow, [], []⟩
def d_Longest_step : He.DefD := ⟨("Longest", some "step"), "step", "Longest.step", defArgs s_Longest_step, defBody s_Longest_step, defScope s_Longest_step, [], []⟩
def d_Translator_init : He.DefD := ⟨("Translator", some "__init__"), "__init__", "Translator.__init__", defArgs s_Translator_init, defBody s_Translator_init, defScope s_Translator_init, [], []⟩
def d_Translator_eq : He.DefD := ⟨("Translator", some "__eq__"), "__eq__", "Translator.__eq__", defArgs s_Translator_eq, defBody s_Translator_eq, defScope s_Translator_eq, [], []⟩
def d_Translator_is_partial_run : He.DefD := ⟨("Translator", some "is_partial_run"), "is_partial_run", "Translator.is_partial_run", defArgs s_Translator_is_partial_run, defBody s_Translator_is_partial_run, defScope s_Translator_is_partial_run, [], []⟩
def d_Translator_last_state : He.DefD := ⟨("Translator", some "last_state"), "last_state", "Translator.last_state", defArgs s_Translator_last_state, defBody s_Translator_last_state, defScope s_Translator_last_state, [], []⟩
def fn0 : List He.DefD := [d_is_integer_paces, d_useful_moves, d_useful_begins, d_loop_in, d_path_lead, d_lead_of, d_greatest_leads, d_least_leads, d_leads, d_pace, d_are_rows, d_is_between, d_is_loop, d_is_useful_run, d_pace_holds, d_is_integer_words, d_is_letter, d_is_word, d_is_index, d_last_of]
def fn1 : List He.DefD := [d_is_partial, d_begin_states, d_end_states, d_closed_over, d_reached_states, d_hopeful_states, d_useful_states, d_is_state, d_is_pair, d_is_move, d_ascends, d_are_pairs, d_are_moves, d_law_deck, d_law_draw, d_law_pick, d_law_drawn, d_law_code, d_law_spread, d_law_alive]
def fn2 : List He.DefD := [d_law_path, d_law_walk, d_law_lead, d_law_is_whole, d_law_is_between, d_law_is_ring, d_law_is_pace, d_law_farthest, d_law_strolled, d_law_most, d_law_right, d_law, d_Longest_init, d_Longest_take, d_Longest_follow, d_Longest_step, d_Translator_init, d_Translator_eq, d_Translator_is_partial_run, d_Translator_last_state]
def fn : List He.DefD := fn0 ++ fn1 ++ fn2
def fa0 : List He.Fa := [.glo "is_integer_paces", .glo "useful_moves", .glo "useful_begins", .glo "loop_in", .glo "path_lead", .glo "lead_of", .glo "greatest_leads", .glo "least_leads", .glo "leads", .glo "pace", .glo "are_rows", .glo "is_between", .glo "is_loop", .glo "is_useful_run", .glo "pace_holds", .glo "is_integer_words", .glo "is_letter", .glo "is_word", .glo "is_index", .glo "last_of", .glo "is_partial", .glo "begin_states", .glo "end_states", .glo "closed_over", .glo "reached_states", .glo "hopeful_states", .glo "useful_states", .glo "is_state", .glo "is_pair", .glo "is_move"]
def fa1 : List He.Fa := [.glo "ascends", .glo "are_pairs", .glo "are_moves", .glo "_law_deck", .glo "_law_draw", .glo "_law_pick", .glo "_law_drawn", .glo "_law_code", .glo "_law_spread", .glo "_law_alive", .glo "_law_path", .glo "_law_walk", .glo "_law_lead", .glo "_law_is_whole", .glo "_law_is_between", .glo "_law_is_ring", .glo "_law_is_pace", .glo "_law_farthest", .glo "_law_strolled", .glo "_law_most", .glo "_law_right", .glo "law", .free "len", .free "sum", .free "tuple", .free "isinstance", .free "all", .free "sorted", .free "max", .free "min"]
def fa2 : List He.Fa := [.free "dict", .free "enumerate", .free "zip", .free "range", .free "set", .free "list", .free "int", .free "repr", .free "str", .free "bool", .int "PACE_PARTS" 3, .int "BETWEEN_PARTS" 2, .str "BETWEEN" "between", .str "RISES" "rises", .str "FALLS" "falls", .str "LETTERS" "abcdefghijklmnopqrstuvwxyz", .int "PARTIAL_PARTS" 2, .int "MOST_STATES" 999, .int "PAIR" 2, .int "QUADRUPLE" 4, .glo "Longest", .cls "Longest", .mkr "Longest", .noat "Longest" "translator_told", .noat "Longest" "sign", .noat "Longest" "has_floor", .noat "Longest" "worths", .noat "Longest" "runs", .meth "Longest" "take", .meth "Longest" "follow"]
def fa3 : List He.Fa := [.meth "Longest" "step", .glo "Translator", .cls "Translator", .mkr "Translator", .noat "Translator" "states", .noat "Translator" "begins", .noat "Translator" "moves", .noat "Translator" "ends", .noat "Translator" "letters", .noat "Translator" "useful", .meth "Translator" "__eq__", .meth "Translator" "is_partial_run", .meth "Translator" "last_state"]
def fa : List He.Fa := fa0 ++ fa1 ++ fa2 ++ fa3
def lo0 : List Str := ["_wall", "PACE_PARTS", "BETWEEN_PARTS", "BETWEEN", "RISES", "FALLS", "is_integer", "is_integer_paces", "useful_moves", "useful_begins", "loop_in", "path_lead", "lead_of", "Longest", "greatest_leads", "least_leads", "leads", "pace", "are_rows", "is_between", "is_loop", "is_useful_run", "pace_holds", "LETTERS", "is_integer_words"]
def lo1 : List Str := ["is_letter", "is_word", "PARTIAL_PARTS", "is_index", "last_of", "is_partial", "states_behind", "states_ahead", "begin_states", "end_states", "closed_over", "reached_states", "hopeful_states", "useful_states", "standings", "words_to", "answers_of", "ascending", "joined_parts", "StreamError", "BadText", "BadTranslator", "HEAD", "BEGIN", "MOVE"]
def lo2 : List Str := ["END", "SORTS", "EMPTY", "DIGITS", "MOST_DIGITS", "MOST_STATES", "PAIR_PARTS", "MOVE_PARTS", "word_said", "word_in", "number_in", "text_of", "states_in", "state_in", "item_in", "parts_in", "PAIR", "QUADRUPLE", "ALL", "is_state", "is_pair", "is_move", "ascends", "are_pairs", "are_moves"]
def lo3 : List Str := ["Translator", "_law_deck", "_law_draw", "_law_pick", "_law_drawn", "_law_code", "_law_spread", "_law_alive", "_law_path", "_law_walk", "_law_lead", "_law_is_whole", "_law_is_between", "_law_is_ring", "_law_is_pace", "_law_farthest", "_law_strolled", "_law_most", "_law_right"]
def lo : List Str := lo0 ++ lo1 ++ lo2 ++ lo3
/-! ### the heap's part that is looked at: the module's names, the functions' code, the classes' dicts, their methods, the methods' code -/
def stepsOf (g : Addr → Option Obj) (a : Addr) : List Addr := match g a with
  | some o => (match o.data with
    | .dict es _ => es.toList.flatMap fun e => He.refV e.val
    | .func fd => He.refV fd.code
    | .cls cd => [cd.ns]
    | _ => [])
  | none => []
def partX (g : Addr → Option Obj) : List Addr :=
  let l1 := stepsOf g mainGlobals
  let l2 := l1.flatMap (stepsOf g)
  let l3 := l2.flatMap (stepsOf g)
  mainGlobals :: (l1 ++ (l2 ++ (l3 ++ l3.flatMap (stepsOf g))))
/-- what isinstance asks of an instance of Translator -/
def extra (K : PySem.W.Frag) : Bool := He.eqO (PySem.W.findIn K (.ref (He.ga K "Translator")) "__class__") (some (some (.builtin "object.__class__"))) && He.eqO (PySem.W.specialIn K (.builtin "object.__class__") "__get__") (some (some (.builtin "getset_descriptor.__get__"))) &&
  decide (PySem.W.takesIn K (.builtin "object.__class__") = some true) && decide (PySem.W.mroIn K (He.ga K "Translator") (.type "object") = some true) && decide (PySem.W.kitOne K (.ref (He.ga K "Translator")) (.ref (He.ga K "Translator")) = some true)
def obsK (K : PySem.W.Frag) : He.AlD := ((He.obsD fa fn K).1 && extra K, (He.obsD fa fn K).2)
theorem obsK_ok {K : PySem.W.Frag} (h : obsK K = He.valD fn) : He.SaysD fa fn K ∧ extra K = true := by
  have h1 : (obsK K).1 = (He.valD fn).1 := by rw [h]
  have h2 : (obsK K).2 = (He.valD fn).2 := by rw [h]
  obtain ⟨a, b⟩ := He.ba h1
  exact ⟨Prod.ext a h2, b⟩
def obsX (g : Addr → Option Obj) : He.AlD := obsK (He.frG g (partX g))
def hookX : PySem.W.Hook where
  α := He.AlD
  obs := fun s => obsX s.heap.get?
  val := fun _ => He.valD fn
  says := fun _ h => ∃ K : PySem.W.Frag, K.In h ∧ (He.SaysD fa fn K ∧ extra K = true)
  of := fun _ _ e => ⟨_, He.frG_in, obsK_ok e⟩
  keeps := fun _ _ _ ⟨K, hK, c⟩ k => ⟨K, PySem.W.Frag.In.keeps hK k, c⟩
def ob (s : PySem.W.SharedT) : He.AlD := obsX (HandSHeadRun.getT s)
theorem ob_eq (s : PySem.W.SharedT) : ob s = hookX.obs s.abs := by
  have e : HandSHeadRun.getT s = s.abs.heap.get? := funext fun a => HandSHeadRun.getT_eq s a
  show obsX (HandSHeadRun.getT s) = obsX s.abs.heap.get?
  rw [e]
abbrev R : PySem.W.OpenRow := PySem.W.OpenLaw.row PySem.Challenge.rw_streamwrights_k86_leads_and_paces
theorem run (w : World) : HandSHeadRun.RunEq R (PySem.W.view R.prog [103]) hookX ob 4400 lo w := by
  intro os
  kernel_rfl
end K86
end
section
set_option maxHeartbeats 4000000
/-! sets of tuples of ints and texts: set(xs), sorted of them (any order of the walk) -/
namespace SetX
open PySem PySem.Spec PyProof.Rows L2

abbrev hM (P : Program) (w : World) (k : List Key) : Int := tupleKeyHash (mixKind P w) k
abbrev IsM (P : Program) (w : World) (h : Heap) (k : List Key) (a : Addr) : Prop := IsTupleKey (mixKind P w) h k a
/-- a value of a key: an int or a text -/
def IsKeyV (v : Value) : Prop := (∃ i t, v = Value.int i t) ∨ ∃ x t, v = Value.str x t
theorem keys_of {P : Program} {w : World} {k : List Key} {vs : List Value} (h : ItemsAre (mixKind P w) k vs) : ∀ v ∈ vs, IsKeyV v := by
  induction h with
  | nil => exact fun v hv => nomatch hv
  | @cons q u qs us hq _ ih =>
    intro v hv
    cases hv with
    | head =>
      rcases keyIs_shape hq with ⟨i, t, _, e⟩ | ⟨x, t, _, e⟩
      · exact .inl ⟨i, t, e⟩
      · exact .inr ⟨x, t, e⟩
    | tail _ hv => exact ih v hv
theorem noCls {n : Nat} {v : Value} (h : IsKeyV v) : ofAClassStatement n v = pure false := by
  rcases h with ⟨i, t, rfl⟩ | ⟨x, t, rfl⟩ <;> cases n <;> rfl
theorem byVal {n : Nat} {v : Value} (h : IsKeyV v) : ∃ b, hashByValue n v = pure b := by
  rcases h with ⟨i, t, rfl⟩ | ⟨x, t, rfl⟩
  · exact ⟨true, by cases n <;> rfl⟩
  · exact ⟨false, by cases n <;> rfl⟩

section
variable {P : Program} {w : World} {A : Around} {E : Value → Shared → Prop} {s : Shared}
theorem cls_no {k : List Key} {b : Addr} {Q : Bool → Shared → Prop} (hk : IsM P w s.heap k b) (h : Q false s) : wpAny (model P w) A (ofAClassStatement 8 (.ref b)) Q E s := by
  have ty := hk.typeIs
  obtain ⟨o, its, n, ho, _, hd, hi⟩ := hk
  have all := keys_of hi
  unfold ofAClassStatement
  refine wpAny_bind (wpAny_typeOf ty ?_)
  dsimp only
  simp only [show (("tuple" : String) == "tuple") = true by decide, if_true, Bool.not_true, Bool.false_eq_true, if_false]
  try refine wpAny_bind (wpAny_pure ?_)
  try simp only [Bool.not_true, Bool.false_eq_true, if_false]
  show wpAny _ _ (seqItems? (.ref b) >>= _) _ _ s
  refine wpAny_bind (wpAny_seqItems ho hd ?_)
  dsimp only
  refine wpAny_bind ?_
  show wpAny _ _ (forIn its _ _) _ _ s
  rw [← Array.forIn_toList]
  refine wpAny_forIn_list _ (fun left r s' => r.1 = none ∧ s' = s ∧ ∀ v ∈ left, IsKeyV v) _ ?step ?fin _ _ ⟨rfl, rfl, all⟩
  case step =>
    rintro v left r s' ⟨hr, rfl, al⟩
    rw [noCls (al v (by simp))]
    refine wpAny_bind (wpAny_pure ?_)
    simp only [Bool.false_eq_true, if_false]
    exact wpAny_pure ⟨rfl, rfl, fun u hu => al u (by simp [hu])⟩
  case fin =>
    rintro ⟨r1, r2⟩ s' ⟨hr, rfl, _⟩
    dsimp only at hr
    subst hr
    exact wpAny_pure h
theorem val_any {k : List Key} {b : Addr} {Q : Bool → Shared → Prop} (hk : IsM P w s.heap k b) (h : ∀ c, Q c s) : wpAny (model P w) A (hashByValue 8 (.ref b)) Q E s := by
  have ty := hk.typeIs
  obtain ⟨o, its, n, ho, _, hd, hi⟩ := hk
  have all := keys_of hi
  unfold hashByValue
  refine wpAny_bind (wpAny_specialOf ty F.slot_tuple_hash.lookup ?_)
  show wpAny _ _ (seqItems? (.ref b) >>= _) _ _ s
  refine wpAny_bind (wpAny_seqItems ho hd ?_)
  refine wpAny_bind ?_
  show wpAny _ _ (forIn its _ _) _ _ s
  rw [← Array.forIn_toList]
  refine wpAny_forIn_list _ (fun left r s' => s' = s ∧ (r.1 = none ∨ (∃ c, r.1 = some c) ∧ left = []) ∧ ∀ v ∈ left, IsKeyV v) _ ?step ?fin _ _ ⟨rfl, .inl rfl, all⟩
  case step =>
    rintro v left r s' ⟨rfl, hr, al⟩
    obtain ⟨c, ec⟩ := byVal (n := 7) (al v (by simp))
    rw [ec]
    refine wpAny_bind (wpAny_pure ?_)
    cases c with
    | true =>
      simp only [Bool.not_true, Bool.false_eq_true, if_false]
      exact wpAny_pure ⟨rfl, .inl rfl, fun u hu => al u (by simp [hu])⟩
    | false =>
      simp only [Bool.not_false, if_true]
      refine wpAny_pure ?_
      exact wpAny_pure (h false)
  case fin =>
    rintro ⟨r1, r2⟩ s' ⟨rfl, hr, _⟩
    dsimp only
    cases r1 with
    | none => exact wpAny_pure (h true)
    | some c => exact wpAny_pure (h c)
/-- looking for a tuple among tuples shows nothing -/
theorem unseen {k : List Key} {b : Addr} {Q : Bool → Shared → Prop} (hk : IsM P w s.heap k b) {ys : List Value} (hy : ∀ y ∈ ys, ∃ k' c, y = Value.ref c ∧ IsM P w s.heap k' c) (h : Q false s) :
    wpAny (model P w) A (searchCouldBeSeen (.ref b) ys) Q E s := by
  unfold searchCouldBeSeen
  refine wpAny_bind ?_
  refine wpAny_forIn_list _ (fun left r s' => r.1 = none ∧ s' = s ∧ ∀ y ∈ left, ∃ k' c, y = Value.ref c ∧ IsM P w s.heap k' c) _ ?step ?fin _ _ ⟨rfl, rfl, hy⟩
  case step =>
    rintro v left r s' ⟨hr, rfl, al⟩
    obtain ⟨k', c, rfl, hc⟩ := al v (by simp)
    have al' : ∀ y ∈ left, ∃ k' c, y = Value.ref c ∧ IsM P w s'.heap k' c := fun u hu => al u (by simp [hu])
    dsimp only
    by_cases q : (b == c || (carriedByValue (.ref b) && carriedByValue (.ref c))) = true
    · exact wp_if_pos q (wpAny_pure ⟨rfl, rfl, al'⟩)
    · refine wp_if_neg q ?_
      refine wpAny_bind (wpAny_eqIsQuiet_tuple hk ?_)
      simp only [Bool.not_true, Bool.false_eq_true, if_false]
      refine wpAny_bind (wpAny_eqIsQuiet_tuple hc ?_)
      simp only [Bool.not_true, Bool.false_eq_true, if_false]
      refine wpAny_bind (cls_no hk ?_)
      simp only [Bool.false_eq_true, if_false]
      refine wpAny_bind (cls_no hc ?_)
      simp only [Bool.false_eq_true, if_false]
      exact wpAny_pure ⟨rfl, rfl, al'⟩
  case fin =>
    rintro ⟨r1, r2⟩ s' ⟨hr, rfl, _⟩
    dsimp only at hr
    subst hr
    exact wpAny_pure h

/-! ### the set of tuples at a -/
abbrev Row := Addr × List Key
def ents (P : Program) (w : World) (L : List Row) : List (Int × Value) := L.map fun p => (hM P w p.2, Value.ref p.1)
abbrev hs (P : Program) (w : World) (L : List Row) : List Int := L.map fun p => hM P w p.2
structure SM (P : Program) (w : World) (h : Heap) (a : Addr) (L : List Row) (es : Array (Int × Value)) (ep : Nat) (t : SetTable) : Prop where
  ob : ∃ o, h.get? a = some o ∧ o.ExactSet ∧ o.data = .set es ep t
  rows : es.toList = ents P w L
  tab : TabOk t (hs P w L)
  nd : (L.map (·.2)).Nodup
  tup : ∀ p ∈ L, IsM P w h p.2 p.1
  led : w.params.followText "set-order" = true ∨ t.led = true
  room : L.length * 5 < t.mask * 3
  few : L.length < 16
variable {a : Addr} {L : List Row} {es : Array (Int × Value)} {ep : Nat} {t : SetTable}
theorem ents_len : (ents P w L).length = L.length := by unfold ents; exact List.length_map ..
theorem sz_of (e : es.toList = ents P w L) : es.size = L.length := by rw [← Array.length_toList, e, ents_len]
theorem SM.size (R : SM P w s.heap a L es ep t) : es.size = L.length := sz_of R.rows
theorem fits_of (h1 : t.place.size = es.size) (h2 : t.dummies = #[]) (h3 : es.size ≤ t.mask) : t.fits es.size = true := by
  unfold SetTable.fits SetTable.fill
  rw [h2, Bool.and_eq_true, beq_iff_eq, decide_eq_true_eq]
  exact ⟨h1, by simp; omega⟩
theorem SM.fits (R : SM P w s.heap a L es ep t) : t.fits es.size = true := by
  have h1 := R.tab.sz
  have h2 := R.size
  have h3 := R.room
  rw [List.length_map] at h1
  exact fits_of (h1.trans h2.symm) R.tab.dm (by omega)
theorem ent_at (e : es.toList = ents P w L) {i : Nat} {p : Row} (h : L[i]? = some p) : es[i]? = some (hM P w p.2, Value.ref p.1) := by
  rw [← Array.getElem?_toList, e]
  unfold ents
  rw [List.getElem?_map, h]
  rfl
theorem SM.odd (R : SM P w s.heap a L es ep t) : ¬ t.gaveWay = true := by
  unfold SetTable.gaveWay
  rw [mask_odd R.tab.mok]
  decide
abbrev st0 (P : Program) (w : World) (t : SetTable) (k : List Key) : SetTable.Probe := runAt t.mask (SetTable.bits (hM P w k) % (t.mask + 1)) (SetTable.bits (hM P w k))
theorem nth_nodummy (m : Nat) : ∀ (n : Nat) (p : SetTable.Probe), p.dummy = none → (nth m p n).dummy = none
  | 0, _, h => h
  | n + 1, p, h => nth_nodummy m n (adv m p) (by
    unfold adv
    split <;> exact h)
abbrev hashes (es : Array (Int × Value)) : Nat → Int := fun i => (es[i]?.map (·.1)).getD 0
/-- the search from the c-th place of the way on -/
theorem look_from (R : SM P w s.heap a L es ep t) {x : Addr} {k : List Key} (hx : IsM P w s.heap k x) (hu : A.units < cLine) {K : Nat} (hKf : K < 10 * SetTable.turns t.mask)
    (hK : way t.mask (hM P w k) K ∉ t.place.toList) (hKb : ∀ c, c < K → way t.mask (hM P w k) c ∈ t.place.toList) {Q : SetFound → Shared → Prop}
    (hin : k ∈ L.map (·.2) → Q (.there none) s) (hout : k ∉ L.map (·.2) → Q (.free (way t.mask (hM P w k) K) false) s) :
    ∀ (f c : Nat) (stand : Option SetTable.Probe), stand.getD (t.probeStart (hM P w k)) = nth t.mask (st0 P w t k) c → c ≤ K → K - c < f →
      (∀ (i : Nat) p, L[i]? = some p → p.2 = k → ∃ c', c ≤ c' ∧ c' < K ∧ t.place.toList[i]? = some (way t.mask (hM P w k) c')) →
      wpAny (model P w) A (setSearchFrom a (.ref x) (hM P w k) true f stand) Q E s := by
  obtain ⟨o, ho, hex, hd⟩ := id R.ob
  intro f
  induction f with
  | zero => exact fun c st _ _ hf _ => absurd hf (Nat.not_lt_zero _)
  | succ f ih =>
    intro c st hst hc hf hre
    rw [setSearchFrom_succ]
    refine wpAny_bind (wpAny_setState_of ho hd R.fits ?_)
    dsimp only
    refine wp_if_neg R.odd ?_
    try refine wpAny_bind (wpAny_pure ?_)
    have add : ∀ q, nth t.mask (nth t.mask (st0 P w t k) c) q = nth t.mask (st0 P w t k) (c + q) := fun q => (nth_add t.mask c _ q).symm
    have adj : ∀ q, (nth t.mask (nth t.mask (st0 P w t k) c) q).j = way t.mask (hM P w k) (c + q) := fun q => congrArg SetTable.Probe.j (add q)
    have spec := go_spec t R.tab.ris R.tab.dm (hashes es) (hM P w k) (10 * SetTable.turns t.mask) (K - c) (nth t.mask (st0 P w t k) c) (nth_nodummy _ _ _ rfl) (by omega)
      (fun q hq => by rw [adj]; exact hKb _ (by omega)) (by rw [adj, show c + (K - c) = K by omega]; exact hK)
    have hash_at : ∀ (i : Nat) (p : Row), L[i]? = some p → hashes es i = hM P w p.2 := fun i p hp => by
      show (es[i]?.map (·.1)).getD 0 = _
      rw [ent_at R.rows hp]
      rfl
    rcases spec with ⟨q, i, hq, hi, hh, hno, hpr⟩ | ⟨hno, hpr⟩
    · -- a candidate stands there
      have pr : t.probe (hashes es) (hM P w k) (st.getD (t.probeStart (hM P w k))) = some (.candidate (way t.mask (hM P w k) (c + q)) i (nth t.mask (st0 P w t k) (c + (q + 1)))) := by
        rw [hst, ← adj, ← add]
        exact hpr
      rw [pr]
      dsimp only
      rw [adj] at hi
      have hil : i < L.length := by
        have h1 : i < t.place.toList.length := (List.getElem?_eq_some_iff.mp hi).1
        have h2 := R.tab.sz
        rw [List.length_map] at h2
        rw [Array.length_toList] at h1
        omega
      obtain ⟨p, hp⟩ : ∃ p, L[i]? = some p := ⟨L[i], List.getElem?_eq_getElem hil⟩
      have hmem : p ∈ L := List.mem_of_getElem? hp
      have sl : t.slot (way t.mask (hM P w k) (c + q)) = .live i := slot_live R.tab.ris hi
      have body : wpAny (model P w) A (searchRest a (.ref x) (hM P w k) true f es t (way t.mask (hM P w k) (c + q)) i (nth t.mask (st0 P w t k) (c + (q + 1)))) Q E s := by
        unfold searchRest
        rw [ent_at R.rows hp]
        dsimp only
        refine wpAny_bind (wpAny_holding (wpAny_eqBool_tuple hu (R.tup p hmem) hx ?_))
        refine wpAny_bind (wpAny_setState_of ho hd R.fits ?_)
        dsimp only
        by_cases hkk : p.2 = k
        · exact wp_if_pos (by simp [hkk]) (wpAny_pure (hin (List.mem_map.mpr ⟨p, hmem, hkk⟩)))
        · refine wp_if_neg (by simp [hkk]) ?_
          try refine wpAny_bind (wpAny_pure ?_)
          rw [sameMem]
          dsimp only
          simp only [if_true, sl, ent_at R.rows hp]
          refine wpAny_bind (wpAny_isSame_ref_self (wpAny_bind (wpAny_pure ?_)))
          simp only [if_true]
          refine wp_if_neg (by simp [hkk]) ?_
          refine ih (c + (q + 1)) _ rfl (by omega) (by omega) fun i0 p0 h0 hk0 => ?_
          obtain ⟨c', a1, a2, a3⟩ := hre i0 p0 h0 hk0
          have far : c + (q + 1) ≤ c' := by
            rcases Nat.lt_trichotomy c' (c + q) with z | z | z
            · exact absurd ((hash_at i0 p0 h0).trans (congrArg (hM P w) hk0)) (hno (c' - c) i0 (by omega) (by rw [adj, show c + (c' - c) = c' by omega]; exact a3))
            · rw [z] at a3
              have s0 := slot_live R.tab.ris a3
              rw [sl] at s0
              cases s0
              rw [hp] at h0
              cases h0
              exact absurd hk0 hkk
            · omega
          exact ⟨c', far, a2, a3⟩
      by_cases hl : t.led = true
      · refine wp_if_neg (by simp [hl]) ?_
        try refine wpAny_bind (wpAny_pure ?_)
        exact body
      · refine wp_if_pos (by simp [hl]) ?_
        refine wpAny_bind (unseen hx (fun y hy => ?_) ?_)
        · obtain ⟨e, he, rfl⟩ := List.mem_map.mp hy
          have he1 : e ∈ es ∧ e.1 = hM P w k := by simpa using he
          have he2 : e ∈ es.toList := by simpa using he1.1
          rw [R.rows] at he2
          obtain ⟨p2, hp2, rfl⟩ := List.mem_map.mp he2
          exact ⟨p2.2, p2.1, rfl, R.tup p2 hp2⟩
        · refine wp_if_neg (by decide) ?_
          try refine wpAny_bind (wpAny_pure ?_)
          exact body
    · -- an empty place
      have pr : t.probe (hashes es) (hM P w k) (st.getD (t.probeStart (hM P w k))) = some (.empty (way t.mask (hM P w k) K) none) := by
        have e2 : way t.mask (hM P w k) K = (nth t.mask (nth t.mask (st0 P w t k) c) (K - c)).j := by rw [adj, show c + (K - c) = K by omega]
        rw [hst, e2]
        exact hpr
      rw [pr]
      dsimp only
      refine wpAny_pure (hout fun hm => ?_)
      obtain ⟨p0, h0, hk0⟩ := List.mem_map.mp hm
      obtain ⟨i0, hi0, e0⟩ := List.getElem_of_mem h0
      have h00 : L[i0]? = some p0 := by rw [List.getElem?_eq_getElem hi0, e0]
      obtain ⟨c', a1, a2, a3⟩ := hre i0 p0 h00 hk0
      exact hno (c' - c) i0 (by omega) (by rw [adj, show c + (c' - c) = c' by omega]; exact a3) ((hash_at i0 p0 h00).trans (congrArg (hM P w) hk0))
theorem look (R : SM P w s.heap a L es ep t) {x : Addr} {k : List Key} (hx : IsM P w s.heap k x) (hu : A.units < cLine) {Q : SetFound → Shared → Prop}
    (hin : k ∈ L.map (·.2) → Q (.there none) s)
    (hout : ∀ K, k ∉ L.map (·.2) → way t.mask (hM P w k) K ∉ t.place.toList → (∀ c, c < K → way t.mask (hM P w k) c ∈ t.place.toList) → Q (.free (way t.mask (hM P w k) K) false) s) :
    wpAny (model P w) A (setSearch a (.ref x) (hM P w k) true) Q E s := by
  have rm := R.room
  obtain ⟨K, hKf, hK, hKb⟩ := R.tab.first (by rw [List.length_map]; omega) (hM P w k)
  have small : K < 100000 := by
    have : 10 * SetTable.turns t.mask ≤ 1420 := by
      unfold SetTable.turns
      rcases R.tab.mok with e | e | e <;> omega
    omega
  unfold setSearch
  refine look_from R hx hu hKf hK hKb hin (fun hn => hout K hn hK hKb) 100000 0 none rfl (Nat.zero_le _) (by omega) fun i p hp hk => ?_
  have hi : (hs P w L)[i]? = some (hM P w k) := by
    rw [List.getElem?_map, hp, ← hk]
    rfl
  have hil : i < t.place.toList.length := by
    have h1 : i < L.length := (List.getElem?_eq_some_iff.mp hp).1
    have h2 := R.tab.sz
    rw [List.length_map] at h2
    rw [Array.length_toList]
    omega
  have hj := List.getElem?_eq_getElem hil
  obtain ⟨c, hc, e⟩ := R.tab.before hK hi hj
  exact ⟨c, Nat.zero_le _, hc, by rw [hj, e]⟩
end
end SetX
end
section
set_option maxHeartbeats 4000000
namespace SetX
open PySem PySem.Spec PyProof.Rows L2
section
variable {P : Program} {w : World} {A : Around} {E : Value → Shared → Prop} {s : Shared}
theorem isM_but {h h' : Heap} {k : List Key} {a b : Addr} {o : Obj} {es : Array (Int × Value)} {ep : Nat} {t : SetTable} (hb : IsM P w h k b) (ho : h.get? a = some o) (hd : o.data = .set es ep t) (sb : Heap.SameBut a h h') : IsM P w h' k b := by
  obtain ⟨o', its, n, ho', hc, hd', hi⟩ := hb
  have ne : b ≠ a := fun z => by
    rw [z, ho] at ho'
    cases ho'
    rw [hd] at hd'
    cases hd'
  exact ⟨o', its, n, (sb.2 b ne).trans ho', hc, hd', hi⟩
theorem isM_kept {h h' : Heap} {k : List Key} {b : Addr} (x : IsM P w h k b) (hk : ∀ c o, h.get? c = some o → h'.get? c = some o) : IsM P w h' k b := by
  obtain ⟨o, its, n, ho, r⟩ := x
  exact ⟨o, its, n, hk b o ho, r⟩
theorem range_pick {α : Type} (L : List α) : (List.range L.length).filterMap (fun i => L[i]?) = L := List.filterMap_getElem?_range_length L
/-- what is picked by an order of all places is the rows in another order -/
theorem picked (L : List Row) (es : Array (Int × Value)) (order : Array Nat) (hr : es.toList = ents P w L) (hp : order.toList.Perm (List.range L.length)) :
    ∃ M, (order.filterMap (es[·]?)).toList = ents P w M ∧ M.Perm L ∧ hs P w M = order.toList.map fun i => (es.map (·.1)).getD i 0 := by
  have go : ∀ l : List Nat, (∀ i ∈ l, i < L.length) → ∃ M : List Row, l.filterMap (fun i => es[i]?) = ents P w M ∧ M = l.filterMap (fun i => L[i]?) ∧ hs P w M = l.map fun i => (es.map (·.1)).getD i 0 := by
    intro l
    induction l with
    | nil => exact fun _ => ⟨[], rfl, rfl, rfl⟩
    | cons i l ih =>
      intro hl
      obtain ⟨M, e1, e2, e3⟩ := ih fun j hj => hl j (by simp [hj])
      have gi : L[i]? = some (L[i]'(hl i (by simp))) := List.getElem?_eq_getElem _
      have ge := ent_at hr gi
      refine ⟨L[i]'(hl i (by simp)) :: M, ?_, ?_, ?_⟩
      · rw [List.filterMap_cons_some ge, e1]
        rfl
      · rw [List.filterMap_cons_some gi, e2]
      · show _ :: hs P w M = _
        rw [List.map_cons, e3]
        congr 1
        have e5 : (es.map (·.1))[i]? = some (hM P w (L[i]'(hl i (by simp))).2) := by
          rw [Array.getElem?_map, ge]
          rfl
        simp [Array.getD_eq_getD_getElem?, e5]
  obtain ⟨M, e1, e2, e3⟩ := go order.toList fun i hi => List.mem_range.mp (hp.mem_iff.mp hi)
  refine ⟨M, by first | (rw [Array.toList_filterMap]; exact e1) | simpa using e1, ?_, e3⟩
  have h1 := hp.filterMap fun i => L[i]?
  rw [range_pick, ← e2] at h1
  exact h1

variable {a : Addr} {L : List Row} {es : Array (Int × Value)} {ep : Nat} {t : SetTable}
/-- the table laid anew with 32 places -/
theorem relay32 {o : Obj} (ho : s.heap.get? a = some o) (hex : o.ExactSet) (hd : o.data = .set es ep t) (hr : es.toList = ents P w L) (hz : t.place.size = es.size) (hdm : t.dummies = #[]) (hfl : es.size ≤ t.mask)
    (nd : (L.map (·.2)).Nodup) (tup : ∀ p ∈ L, IsM P w s.heap p.2 p.1) (ld : w.params.followText "set-order" = true ∨ t.led = true) (few : L.length < 16) {wanted : Nat} (hw : SetTable.sizeAbove wanted = 32) {Q : Unit → Shared → Prop}
    (hQ : ∀ h' M es' ep' t', Heap.SameBut a s.heap h' → SM P w h' a M es' ep' t' → M.Perm L → Q () { s with heap := h' }) : wpAny (model P w) A (setRelay a wanted) Q E s := by
  have hsl := sz_of hr
  obtain ⟨t', order, e, hp, T, em, el, ep', ed⟩ := relaid_ok t (hs := es.map (·.1)) (wanted := wanted) (M := 31) (by rw [hw]) (.inr (.inl rfl)) (by rw [Array.size_map, hsl]; omega)
  rw [Array.size_map, hsl] at hp
  obtain ⟨M, r1, r2, r3⟩ := picked L es order hr hp
  rw [← r3] at T
  have hs2 : (order.filterMap (es[·]?)).size = es.size := by rw [sz_of r1, r2.length_eq, hsl]
  rw [setRelay_eq]
  refine wpAny_bind (wpAny_setState_of ho hd (fits_of hz hdm hfl) ?_)
  dsimp only
  refine wp_if_neg (by rw [hw, sizeLine_eq]; decide) ?_
  try refine wpAny_bind (wpAny_pure ?_)
  rw [e]
  dsimp only
  refine wpAny_bind ?_
  refine wp_if_neg (by rw [hs2]; simp) ?_
  try refine wpAny_bind (wpAny_pure ?_)
  refine wpAny_pure ?_
  dsimp only
  refine wpAny_storeSet_of ho hd ?_ (by rw [hs2, hsl, sizeLine_eq]; omega)
  have sb : Heap.SameBut a s.heap (s.heap.update a (Obj.putSet (order.filterMap (es[·]?)) t')) := Heap.SameBut.update ..
  refine hQ _ M _ (ep + 1) t' sb ⟨⟨_, store_at ho hd, ⟨hex.1, hex.2.1, hex.2.2⟩, rfl⟩, r1, T, (r2.map (·.2)).nodup_iff.mpr nd, fun p hpm => isM_but (tup p (r2.mem_iff.mp hpm)) ho hd sb, by rw [el]; exact ld, ?_, by rw [r2.length_eq]; exact few⟩ r2
  rw [r2.length_eq, em]
  omega
theorem tab_flag {t : SetTable} {h : List Int} {b : Bool} (T : TabOk t h) : TabOk { t with plain := b } h := ⟨T.ris, T.dm, T.sz, T.mok, T.bd, T.reach⟩
theorem put_mid (L : List Row) (p : Nat) (x : Row) : (L.take p ++ x :: L.drop p).Perm (x :: L) := by
  have h : (L.take p ++ x :: L.drop p).Perm (x :: (L.take p ++ L.drop p)) := List.perm_middle
  rwa [List.take_append_drop] at h
/-- a tuple comes in -/
theorem comes (R : SM P w s.heap a L es ep t) {x : Addr} {k : List Key} (hx : IsM P w s.heap k x) (hu : A.units < cLine) (hfew : L.length + 1 < 16) {Q : Bool → Shared → Prop}
    (hQ : ∀ b h' M es' ep' t', Heap.SameBut a s.heap h' → SM P w h' a M es' ep' t' → (k ∈ L.map (·.2) → M = L) → (k ∉ L.map (·.2) → M.Perm ((x, k) :: L)) → Q b { s with heap := h' }) :
    wpAny (model P w) A (setAddHashed a (.ref x) (hM P w k)) Q E s := by
  obtain ⟨o, ho, hex, hd⟩ := id R.ob
  have hsl := R.size
  have rm := R.room
  unfold setAddHashed
  refine wpAny_holding ?_
  rw [show (100000 : Nat) = 99999 + 1 from rfl, setAddHashedIn_succ]
  refine wpAny_bind (wpAny_setState_of ho hd R.fits ?_)
  dsimp only
  refine wp_if_neg (by simp [byScan, Value.scannable]) ?_
  try refine wpAny_bind (wpAny_pure ?_)
  refine wpAny_bind (look R hx hu (fun hm => ?_) fun K hm hK hb => ?_)
  · dsimp only
    exact wpAny_pure (hQ false s.heap L es ep t (Heap.SameBut.refl a s.heap) R (fun _ => rfl) fun z => absurd hm z)
  · dsimp only
    refine wpAny_bind (wpAny_setState_of ho hd R.fits ?_)
    dsimp only
    obtain ⟨q1, q2, q3, q4, q5, q6, q7, q8, q9⟩ := R.tab.put hK hb
    generalize hpt : t.put (way t.mask (hM P w k) K) = pt at q1 q3 q4 q5 q6 q7 q8 q9 ⊢
    obtain ⟨t1, p⟩ := pt
    dsimp only at q1 q3 q4 q5 q6 q7 q8 q9 ⊢
    subst q1
    have hin : (SetTable.insertAt es (SetTable.below t.place (way t.mask (hM P w k) K)) (hM P w k, Value.ref x)).toList = ents P w (L.take (SetTable.below t.place (way t.mask (hM P w k) K)) ++ (x, k) :: L.drop (SetTable.below t.place (way t.mask (hM P w k) K))) := by
      rw [SetTable.toList_insertAt, R.rows]
      unfold ents
      rw [List.map_append, List.map_cons, List.map_take, List.map_drop]
    generalize SetTable.below t.place (way t.mask (hM P w k) K) = p at q2 q3 hin ⊢
    have pm := put_mid L p (x, k)
    have hlen : (L.take p ++ (x, k) :: L.drop p).length = L.length + 1 := pm.length_eq
    have hhs : hs P w (L.take p ++ (x, k) :: L.drop p) = (hs P w L).take p ++ hM P w k :: (hs P w L).drop p := by
      show List.map _ _ = (List.map _ _).take p ++ _ :: (List.map _ _).drop p
      rw [List.map_append, List.map_cons, List.map_take, List.map_drop]
    rw [← hhs] at q3
    have nd1 : ((L.take p ++ (x, k) :: L.drop p).map (·.2)).Nodup := by
      refine (pm.map (·.2)).nodup_iff.mpr ?_
      rw [List.map_cons]
      exact List.nodup_cons.mpr ⟨hm, R.nd⟩
    have hes := sz_of hin
    rw [hlen] at hes
    generalize SetTable.insertAt es p (hM P w k, Value.ref x) = es1 at hin hes ⊢
    generalize L.take p ++ (x, k) :: L.drop p = L1 at pm hlen q3 nd1 hin
    have led1 : w.params.followText "set-order" = true ∨ t1.led = true := by rw [q5]; exact R.led
    -- whatever the flag of plain things is then
    have tail : ∀ b : Bool, wpAny (model P w) A (do
        storeSet a es1 (if b = true then t1 else { t1 with plain := false })
        if (!false && (if b = true then t1 else { t1 with plain := false }).tooFull) = true then setRelay a (SetTable.grown (es.size + 1))
        pure true) Q E s := by
      intro b
      have T2 : TabOk (if b = true then t1 else { t1 with plain := false }) (hs P w L1) := by
        cases b
        · exact tab_flag q3
        · exact q3
      have m2 : (if b = true then t1 else { t1 with plain := false }).mask = t.mask := by cases b <;> exact q4
      have l2 : (if b = true then t1 else { t1 with plain := false }).led = t1.led := by cases b <;> rfl
      have f2 : (if b = true then t1 else { t1 with plain := false }).fill = (hs P w L).length + 1 := by cases b <;> exact q9
      generalize (if b = true then t1 else { t1 with plain := false }) = t2 at T2 m2 l2 f2 ⊢
      rw [← l2] at led1
      refine wpAny_bind (wpAny_storeSet_of ho hd ?_ (by rw [hes, sizeLine_eq]; omega))
      have sb : Heap.SameBut a s.heap (s.heap.update a (Obj.putSet es1 t2)) := Heap.SameBut.update ..
      have ho1 := store_at (es' := es1) (t' := t2) ho hd
      generalize s.heap.update a (Obj.putSet es1 t2) = h1 at sb ho1 ⊢
      have tup1 : ∀ p ∈ L1, IsM P w h1 p.2 p.1 := fun p hp => by
        rcases List.mem_cons.mp (pm.mem_iff.mp hp) with e | hp
        · rw [e]
          exact isM_but hx ho hd sb
        · exact isM_but (R.tup p hp) ho hd sb
      by_cases hf : t2.tooFull = true
      · first
          | (refine wpAny_bind ?_; refine wp_if_pos (by simp [hf]) ?_)
          | (refine wp_if_pos (by simp [hf]) ?_; refine wpAny_bind ?_)
        have full : (L.length + 1) * 5 ≥ t2.mask * 3 := by
          unfold SetTable.tooFull at hf
          rw [decide_eq_true_eq, f2, List.length_map] at hf
          exact hf
        have m7 : t.mask = 7 ∧ L.length = 4 := by
          rcases R.tab.mok with e | e | e
          · rw [m2, e] at full
            rw [e] at rm
            exact ⟨e, by omega⟩
          · rw [m2, e] at full
            omega
          · rw [m2, e] at full
            omega
        have z1 := T2.sz
        rw [List.length_map, hlen] at z1
        refine relay32 (s := { s with heap := h1 }) ho1 ⟨hex.1, hex.2.1, hex.2.2⟩ rfl hin (by rw [z1, hes]) T2.dm (by rw [hes, m2, m7.1, m7.2]; decide) nd1 tup1 led1 (by rw [hlen]; exact hfew) (by rw [hsl, m7.2]; exact size_20) ?_
        intro h2 M es2 ep2 t3 sb2 R2 pm2
        exact wpAny_pure (hQ true h2 M es2 ep2 t3 (sb.trans sb2) R2 (fun z => absurd z hm) fun _ => pm2.trans pm)
      · first
          | refine wp_if_neg (by simp [hf]) ?_
          | (refine wpAny_bind ?_; refine wp_if_neg (by simp [hf]) ?_; refine wpAny_pure ?_)
        refine wpAny_pure (hQ true h1 L1 es1 (ep + 1) t2 sb ⟨⟨_, ho1, ⟨hex.1, hex.2.1, hex.2.2⟩, rfl⟩, hin, T2, nd1, tup1, led1, ?_, by rw [hlen]; exact hfew⟩ (fun z => absurd z hm) fun _ => pm)
        unfold SetTable.tooFull at hf
        rw [decide_eq_true_eq, f2, List.length_map] at hf
        rw [hlen]
        omega
    by_cases pl : t1.plain = true
    · first
        | (refine wpAny_bind ?_; refine wp_if_pos pl ?_; refine val_any hx fun b => ?_)
        | refine wp_if_pos pl (wpAny_bind (val_any hx fun b => ?_))
      exact tail b
    · first
        | (refine wpAny_bind ?_; refine wp_if_neg pl ?_; refine wpAny_pure ?_)
        | refine wp_if_neg pl (wpAny_bind (wpAny_pure ?_))
        | refine wp_if_neg pl ?_
      exact tail true
end
end SetX
end
section
set_option maxHeartbeats 4000000
namespace SetX
open PySem PySem.Spec PyProof.Rows L2
/-- what the set has of the first i rows: rows of these, all their keys -/
structure Has (ks : List Row) (i : Nat) (L : List Row) : Prop where
  sub : ∀ p ∈ L, p ∈ ks.take i
  all : ∀ p ∈ ks.take i, p.2 ∈ L.map (·.2)
  len : L.length ≤ i
theorem Has.zero (ks : List Row) : Has ks 0 [] := ⟨fun p h => (nomatch h), fun p h => (by simp at h), Nat.le_refl _⟩
theorem take_one {α : Type} {l : List α} {i : Nat} {x : α} (h : l[i]? = some x) : l.take (i + 1) = l.take i ++ [x] := by rw [List.take_add_one, h]; rfl
theorem Has.next {ks L M : List Row} {i : Nat} {x : Row} (g : Has ks i L) (h : ks[i]? = some x) (c1 : x.2 ∈ L.map (·.2) → M = L) (c2 : x.2 ∉ L.map (·.2) → M.Perm (x :: L)) : Has ks (i + 1) M := by
  have e := take_one h
  by_cases c : x.2 ∈ L.map (·.2)
  · rw [c1 c]
    refine ⟨fun p hp => by rw [e]; exact List.mem_append_left _ (g.sub p hp), fun p hp => ?_, Nat.le_succ_of_le g.len⟩
    rw [e] at hp
    rcases List.mem_append.mp hp with z | z
    · exact g.all p z
    · rw [List.mem_singleton.mp z]
      exact c
  · have pm := c2 c
    refine ⟨fun p hp => ?_, fun p hp => ?_, by rw [pm.length_eq]; exact Nat.succ_le_succ g.len⟩
    · rw [e]
      rcases List.mem_cons.mp (pm.mem_iff.mp hp) with z | z
      · rw [z]
        exact List.mem_append_right _ (List.mem_singleton.mpr rfl)
      · exact List.mem_append_left _ (g.sub p z)
    · rw [(pm.map (·.2)).mem_iff, List.map_cons]
      rw [e] at hp
      rcases List.mem_append.mp hp with z | z
      · exact List.mem_cons_of_mem _ (g.all p z)
      · rw [List.mem_singleton.mp z]
        exact List.mem_cons_self
section
variable {P : Program} {w : World} {A : Around} {E : Value → Shared → Prop} {s : Shared}
theorem SM.kept {h h' : Heap} {a : Addr} {L : List Row} {es : Array (Int × Value)} {ep : Nat} {t : SetTable} (R : SM P w h a L es ep t) (ha : ∀ o, h.get? a = some o → h'.get? a = some o) (ht : ∀ p ∈ L, IsM P w h' p.2 p.1) : SM P w h' a L es ep t := by
  obtain ⟨o, ho, r⟩ := R.ob
  exact ⟨⟨o, ha o ho, r⟩, R.rows, R.tab, R.nd, ht, R.led, R.room, R.few⟩
abbrev newSetO (w : World) : Obj := { cls := .type "set", dict := none, data := .set #[] 0 (.fresh 0 0 (!w.params.followText "set-order")) }
theorem sm_fresh {h : Heap} {a : Addr} (ho : h.get? a = some (newSetO w)) : SM P w h a [] #[] 0 (.fresh 0 0 (!w.params.followText "set-order")) where
  ob := ⟨_, ho, ⟨rfl, rfl, rfl⟩, rfl⟩
  rows := rfl
  tab := ⟨List.Pairwise.nil, rfl, rfl, .inl rfl, fun _ hx => (nomatch hx), fun _ _ _ hi => by simp at hi⟩
  nd := List.nodup_nil
  tup := fun _ hp => nomatch hp
  led := by
    show _ ∨ (!w.params.followText "set-order") = true
    cases w.params.followText "set-order"
    · exact .inr rfl
    · exact .inl rfl
  room := by show 0 * 5 < 7 * 3; decide
  few := by show 0 < 16; decide
theorem update_rows {I : Addr} {fp wr : List Addr} {G : Array GenState → Array GenState → Prop} {n : Nat} {Pv : Nat → Value → Prop} {St : Nat → Shared → Prop} {R : Result → Shared → Prop}
    (W : WalksS P w A.in1 I fp wr G n Pv St) (S : Addr) (hSf : S ∉ fp) (ks : List Row) (hn : n = ks.length) (hfew : ks.length < 16) (hval : ∀ i v, Pv i v → ∃ p, ks[i]? = some p ∧ v = .ref p.1)
    (h0 : Heap) (hk : ∀ p ∈ ks, IsM P w h0 p.2 p.1) (hS0 : h0.get? S = none) (hw0 : ∀ b ∈ wr, h0.get? b = none) (hu : A.in1.units < cLine) :
    ∀ (k i : Nat) (s : Shared), n - i = k → i ≤ n → St i s → (∀ b o, h0.get? b = some o → s.heap.get? b = some o) → (∃ L es ep t, SM P w s.heap S L es ep t ∧ Has ks i L) →
      (∀ s' L es ep t, Moved (S :: wr) G s s' → SM P w s'.heap S L es ep t → Has ks n L → (∀ b o, h0.get? b = some o → s'.heap.get? b = some o) → R (.ok (.ret .none)) s') →
      codeAny (model P w) A (.builtin "set.update.loop" ⟨[.ref S, .ref I], []⟩) R s := by
  have hSw : S ∉ wr := fun h => hSf (W.sub _ h)
  have up : ∀ b ∈ wr, b ∈ S :: wr := fun b hb => List.mem_cons_of_mem _ hb
  have still : ∀ {s s' : Shared}, Moved wr G s s' → (∀ b o, h0.get? b = some o → s.heap.get? b = some o) → ∀ b o, h0.get? b = some o → s'.heap.get? b = some o := fun hm hkp b o e =>
    hm.heap b o (fun hb => by rw [hw0 b hb] at e; cases e) (hkp b o e)
  intro k
  induction k with
  | zero =>
    intro i s hk' hi hst hkp ⟨L, es, ep, t, hS, g⟩ hR
    obtain rfl : i = n := by omega
    refine codeAny_builtin F.entry_set_update_loop ?_
    rw [Around.under_plainId F.plain_set_update_loop _]
    show wpAny _ A.in1 (pyNext (.ref I) >>= _) _ _ s
    refine wpAny_bind (W.done s _ _ hst fun s' hm => ?_)
    show wpAny _ A.in1 (ret Value.none) _ _ s'
    have kp := still hm hkp
    refine wpAny_pure (hR s' L es ep t (hm.mono up) (hS.kept (fun o e => hm.heap S o hSw e) fun p hp => ?_) g kp)
    exact isM_kept (hk p (List.mem_of_mem_take (g.sub p hp))) kp
  | succ k ih =>
    intro i s hk' hi hst hkp ⟨L, es, ep, t, hS, g⟩ hR
    have lt : i < n := by omega
    refine codeAny_builtin F.entry_set_update_loop ?_
    rw [Around.under_plainId F.plain_set_update_loop _]
    show wpAny _ A.in1 (pyNext (.ref I) >>= _) _ _ s
    refine wpAny_bind (W.item i s _ _ lt hst fun v s' hP hst' hm => ?_)
    obtain ⟨p, hp, rfl⟩ := hval i v hP
    have kp := still hm hkp
    have hS' : SM P w s'.heap S L es ep t := hS.kept (fun o e => hm.heap S o hSw e) fun q hq => isM_kept (hk q (List.mem_of_mem_take (g.sub q hq))) kp
    have hx : IsM P w s'.heap p.2 p.1 := isM_kept (hk p (List.mem_of_getElem? hp)) kp
    show wpAny _ A.in1 (holding [Value.ref p.1] (setAdd S (.ref p.1)) >>= _) _ _ s'
    refine wpAny_bind (wpAny_holding ?_)
    unfold setAdd
    refine wpAny_holding ?_
    refine wpAny_bind (wpAny_pyHash_tuple hu hx ?_)
    refine comes (s := { s' with toks := s'.toks + (p.2.length + 1) }) hS' hx hu (by have := g.len; omega) fun b h' M es' ep' t' sb hS2 c1 c2 => ?_
    have kp2 : ∀ b o, h0.get? b = some o → h'.get? b = some o := fun b o e => (sb.2 b (fun z => by rw [z, hS0] at e; cases e)).trans (kp b o e)
    refine wpAny_pure ⟨plainId_quiet F.plain_set_update_loop _, ih (i + 1) _ (by omega) lt (W.frame _ s' _ _ hst' (Nat.le_add_right _ _) fun b hb o e => ?_) kp2 ⟨M, es', ep', t', hS2, g.next hp c1 c2⟩ fun s'' L2 es2 ep2 t2 hm'' hS'' g'' kp'' => ?_⟩
    · rw [sb.2 b (fun h : b = S => hSf (by rw [← h]; exact hb))]
      exact e
    · refine hR s'' L2 es2 ep2 t2 (Moved.trans W.gtrans ((hm.mono up).then_heap (Nat.le_add_right _ _) fun b o hb e => ?_) hm'') hS'' g'' kp''
      rw [sb.2 b (fun h : b = S => hb (by rw [h]; exact List.mem_cons_self))]
      exact e
/-- set(xs), xs a list: what the update's loop does is a premise -/
theorem set_call {l : Addr} {items : Array Value} (Fin : Heap → Prop) {Q : Value → Shared → Prop} (hh : A.handled = none) (hl : s.heap.IsList l items)
    (loop : ∀ (fp wr : List Addr) (G : Array GenState → Array GenState → Prop) (St : Nat → Shared → Prop) (W : WalksS P w A.in1.in1.in1 (s.heap.push (newSetO w)).objs.size fp wr G items.size (fun i v => items[i]? = some v) St) (s2 : Shared) (R : Result → Shared → Prop),
      s.heap.objs.size ∉ fp → (∀ b ∈ wr, s.heap.get? b = none) → St 0 s2 → (∀ b o, s.heap.get? b = some o → s2.heap.get? b = some o) → s2.heap.get? s.heap.objs.size = some (newSetO w) →
      (∀ s', Moved (s.heap.objs.size :: wr) G s2 s' → Fin s'.heap → (∀ b o, s.heap.get? b = some o → s'.heap.get? b = some o) → R (.ok (.ret .none)) s') →
      codeAny (model P w) A.in1.in1 (.builtin "set.update.loop" ⟨[.ref s.heap.objs.size, .ref (s.heap.push (newSetO w)).objs.size], []⟩) R s2)
    (h : ∀ (h' : Heap) (tk : Nat), Fin h' → (∀ b o, s.heap.get? b = some o → h'.get? b = some o) → Q (.ref s.heap.objs.size) { s with heap := h', toks := tk }) :
    wpAny (model P w) A (call (.type "set") [.ref l]) Q E s := by
  obtain ⟨c, tl, hmro⟩ := F.called_set.mro
  have hmade := F.called_set.made
  have hsub := F.called_set.sub
  refine wpAny_call (codeAny_of_tree ?_)
  show wpAny _ _ (callAny (.type "set") _) _ _ _
  refine wpAny_pure ⟨Code.quiet_builtin _ (by decide +kernel), codeAny_builtin F.entry_type_call ?_⟩
  rw [Around.under_plain (weight_type_call_type "set" [.ref l] []) rfl]
  have h1 := F.called_set.notType
  have h2 := F.called_set.canCreate
  have hct := F.typeCall_set_1 (.ref l)
  repeat (any_goals (first | assumption | wp_step))
  refine codeAny_mono (code_set_led1 (.ref l) (E := E) (Q₁ := fun obj s₁ => obj = .ref s.heap.objs.size ∧ s₁ = { s with heap := s.heap.push (newSetO w) }) ⟨rfl, rfl⟩) fun r s₁ hr => ?_
  cases r with
  | error e => exact hr
  | ok fl =>
    cases fl with
    | ret obj =>
      obtain ⟨rfl, rfl⟩ := hr
      have hS : (s.heap.push (newSetO w)).get? s.heap.objs.size = some (newSetO w) := Heap.get?_push_size _ rfl
      have hT : Shared.TypeIs { s with heap := s.heap.push (newSetO w) } (.ref s.heap.objs.size) "set" := ⟨_, hS, rfl⟩
      have hli := F.called_set.init.lookup
      have hbi := F.called_set.init.bind (.ref s.heap.objs.size)
      repeat (any_goals (first | assumption | wp_step))
      refine codeAny_mono (codeAny_call_builtin (R := wants (fun r s₂ => r = .none ∧ ∃ h' tk, s₂ = { s with heap := h', toks := tk } ∧ Fin h' ∧
          (∀ b o, s.heap.get? b = some o → h'.get? b = some o)) E) F.called_set.init.plain F.entry_set_init (check_set_init_1 hT ?_)) fun r₂ s₂ hr₂ => ?_
      · obtain ⟨ol, hol, hcl, nl, hdl⟩ := id hl
        obtain ⟨ocls, odict, odata, oslots⟩ := ol
        simp only at hcl hdl
        subst hcl
        subst hdl
        have hol' : (s.heap.push (newSetO w)).get? l = some { cls := .type "list", dict := odict, data := .seq items nl, slots := oslots } := Heap.get?_push_of_some _ hol
        have hsls := F.sub_list_set
        have hslf := F.sub_list_frozenset
        have hne : (Value.type "list" == Value.type "dict") = false := by decide
        have hl1 : (s.heap.push (newSetO w)).IsList l items := ⟨_, hol', rfl, nl, rfl⟩
        unfold Builtin.«set.__init__» noKeywords Builtin.Frozenset.updateFrom
        generalize hPI : pyIter = PI
        wp_walk
        subst hPI
        refine wpAny_pyIter_list hl1 ?_
        refine wpAny_bind (wpAny_runValue ?_)
        have lS : l < s.heap.objs.size := Heap.lt_size hol
        have hh3 : A.in1.in1.in1.handled = none := by simp [hh]
        have z1 : (s.heap.push (newSetO w)).objs.size = s.heap.objs.size + 1 := Heap.size_push ..
        have no : ∀ b, s.heap.objs.size ≤ b → s.heap.get? b = none := fun b hb => by
          cases q : s.heap.get? b with
          | none => rfl
          | some o => exact absurd (Nat.lt_of_lt_of_le (Heap.lt_size q) hb) (Nat.lt_irrefl _)
        have ne : l ≠ (s.heap.push (newSetO w)).objs.size := by
          rw [z1]
          exact Nat.ne_of_lt (Nat.lt_succ_of_lt lS)
        have W0 := (Walks.list (prog := P) (w := w) hh3 (s.heap.push (newSetO w)).objs.size l ne items).toS
        refine loop _ _ _ _ W0 _ _
          (by
            rw [z1]
            simp only [List.mem_cons, List.mem_singleton, List.not_mem_nil, or_false, not_or]
            exact ⟨Nat.ne_of_lt (Nat.lt_succ_self _), Nat.ne_of_gt lS⟩) (fun b hb => no b (by
            rw [List.mem_singleton.mp hb, z1]
            exact Nat.le_succ _))
          ⟨⟨_, Heap.get?_push_size _ rfl, rfl, rfl⟩, (hl1.push _)⟩ (fun b o e => Heap.get?_push_of_some _ (Heap.get?_push_of_some _ e)) (Heap.get?_push_of_some _ hS) ?hR
        case hR =>
          intro s' hm fin hkp
          obtain ⟨h', g2, d', tk', os'⟩ := s'
          have eg : g2 = s.gens := hm.gens
          have ed : d' = s.drawn := hm.drawn
          have eo : os' = s.os := hm.os
          subst eg
          subst ed
          subst eo
          show wpAny _ _ _ _ _ _
          refine wpAny_pure ?_
          show wpAny _ _ (ret Value.none) _ _ _
          exact wpAny_pure ⟨rfl, h', tk', rfl, fin, hkp⟩
      · cases r₂ with
        | error e => exact hr₂
        | ok fl₂ =>
          cases fl₂ with
          | ret r =>
            obtain ⟨rfl, h', tk, rfl, fin, hk'⟩ := hr₂
            repeat (any_goals (first | assumption | wp_step))
            exact h _ _ fin hk'
          | _ => exact hr₂.elim
    | _ => exact hr.elim
/-- set(xs), xs a list of tuples -/
theorem set_of_list {l : Addr} {items : Array Value} (ks : List Row) {Q : Value → Shared → Prop} (hh : A.handled = none) (hl : s.heap.IsList l items) (hit : items.toList = ks.map fun p => Value.ref p.1)
    (hk : ∀ p ∈ ks, IsM P w s.heap p.2 p.1) (hfew : ks.length < 16) (hu : A.units + 3 < cLine)
    (h : ∀ (h' : Heap) (tk : Nat) L es ep t, SM P w h' s.heap.objs.size L es ep t → Has ks ks.length L → (∀ b o, s.heap.get? b = some o → h'.get? b = some o) → Q (.ref s.heap.objs.size) { s with heap := h', toks := tk }) :
    wpAny (model P w) A (call (.type "set") [.ref l]) Q E s := by
  have isz : items.size = ks.length := by rw [← Array.length_toList, hit, List.length_map]
  have val : ∀ (i : Nat) (v : Value), items[i]? = some v → ∃ p, ks[i]? = some p ∧ v = .ref p.1 := fun i v hv => by
    rw [← Array.getElem?_toList, hit, List.getElem?_map] at hv
    cases q : ks[i]? with
    | none =>
      rw [q] at hv
      cases hv
    | some p =>
      rw [q] at hv
      exact ⟨p, rfl, (Option.some.inj hv).symm⟩
  refine set_call (Fin := fun h' => ∃ L es ep t, SM P w h' s.heap.objs.size L es ep t ∧ Has ks ks.length L) hh hl (fun fp wr G St W s2 R hf hw st k2 new hR => ?_) fun h' tk ⟨L, es, ep, t, R, g⟩ k => h h' tk L es ep t R g k
  refine update_rows W _ hf ks isz hfew val s.heap hk ?_ hw hu (items.size - 0) 0 s2 (by omega) (Nat.zero_le _) st k2 ⟨[], #[], 0, _, sm_fresh new, Has.zero ks⟩ fun s' L es ep t m R g k => hR s' m ⟨L, es, ep, t, R, by rw [← isz]; exact g⟩ k
  cases q : s.heap.get? s.heap.objs.size with
  | none => rfl
  | some o => exact absurd (Heap.lt_size q) (Nat.lt_irrefl _)
end
end SetX
end
section
set_option maxHeartbeats 4000000
/-! sets of ints and texts: any order of the walk -/
namespace SetX
open PySem PySem.Spec PyProof.Rows L2
/-- entries es stand for the keys ks, one each -/
def Ent (P : Program) (w : World) (es : List (Int × Value)) (ks : List Key) : Prop := PySem.ItemsAre (mixKind P w) ks (es.map (·.2)) ∧ ElemsOf (mixKind P w) es
theorem items_perm {P : Program} {w : World} {l m : List Value} (p : l.Perm m) : ∀ {ks : List Key}, PySem.ItemsAre (mixKind P w) ks m → ∃ ks', ks'.Perm ks ∧ PySem.ItemsAre (mixKind P w) ks' l := by
  induction p with
  | nil => exact fun {ks} h => ⟨ks, .refl _, h⟩
  | @cons x l m _ ih =>
    intro ks h
    cases h with
    | cons h1 h2 =>
      obtain ⟨k2, p2, i2⟩ := ih h2
      exact ⟨_ :: k2, p2.cons _, .cons h1 i2⟩
  | @swap x y l =>
    intro ks h
    cases h with
    | cons h1 h2 =>
      cases h2 with
      | cons h2 h3 => exact ⟨_ :: _ :: _, .swap _ _ _, .cons h2 (.cons h1 h3)⟩
  | @trans a b c _ _ ih1 ih2 =>
    intro ks h
    obtain ⟨k2, p2, i2⟩ := ih2 h
    obtain ⟨k1, p1, i1⟩ := ih1 i2
    exact ⟨k1, p1.trans p2, i1⟩
theorem items_mem {P : Program} {w : World} : ∀ {ks : List Key} {es : List (Int × Value)}, PySem.ItemsAre (mixKind P w) ks (es.map (·.2)) → ∀ k, k ∈ ks ↔ ∃ e ∈ es, (mixKind P w).is k e.2 = true
  | [], [], _, k => by simp
  | [], _ :: _, h, _ => nomatch h
  | _ :: _, [], h, _ => nomatch h
  | q :: ks, e :: es, .cons h1 h2, k => by
    have ih := items_mem h2 k
    have one : (mixKind P w).is k e.2 = true ↔ k = q := by
      have := KeyKind.is_eq_decide h1 k
      rw [this, decide_eq_true_eq]
    rw [List.mem_cons, ih]
    constructor
    · rintro (z | ⟨e', he, z⟩)
      · exact ⟨e, by simp, one.mpr z⟩
      · exact ⟨e', by simp [he], z⟩
    · rintro ⟨e', he, z⟩
      rcases List.mem_cons.mp he with rfl | he
      · exact .inl (one.mp z)
      · exact .inr ⟨e', he, z⟩
/-- the set at a has the keys ks (each once, in any order) -/
def SQ (P : Program) (w : World) (h : Heap) (a : Addr) (ks : List Key) : Prop := ∃ o es ep t ks', h.get? a = some o ∧ o.ExactSet ∧ o.data = .set es ep t ∧ ks'.Perm ks ∧ Ent P w es.toList ks' ∧ ks.Nodup ∧ es.size < scanBound ∧ t.fits es.size = true ∧ Ris t.place.toList ∧
  (w.params.followText "set-order" = true ∨ t.led = true)
section
variable {P : Program} {w : World} {A : Around} {E : Value → Shared → Prop} {s : Shared} {a : Addr}
theorem SQ.kept {h h' : Heap} {ks : List Key} (R : SQ P w h a ks) (k : ∀ o, h.get? a = some o → h'.get? a = some o) : SQ P w h' a ks := by
  obtain ⟨o, es, ep, t, ks', ho, r⟩ := R
  exact ⟨o, es, ep, t, ks', k o ho, r⟩
theorem ent_len {es : Array (Int × Value)} {ks : List Key} (h : Ent P w es.toList ks) : es.size = ks.length := by
  have := h.1.length
  simpa using this.symm
theorem sq_fresh {h : Heap} (ho : h.get? a = some (newSetO w)) : SQ P w h a [] :=
  ⟨_, #[], 0, _, [], ho, ⟨rfl, rfl, rfl⟩, rfl, .refl _, ⟨.nil, fun e he => by simp at he⟩, List.nodup_nil, by decide, by rfl, List.Pairwise.nil, by
    show _ ∨ (!w.params.followText "set-order") = true
    cases w.params.followText "set-order"
    · exact .inr rfl
    · exact .inl rfl⟩
theorem ent_perm {es es1 : List (Int × Value)} {ks : List Key} (p : es1.Perm es) (h : Ent P w es ks) : ∃ ks', ks'.Perm ks ∧ Ent P w es1 ks' := by
  obtain ⟨k2, p2, i2⟩ := items_perm (p.map (·.2)) h.1
  exact ⟨k2, p2, i2, h.2.perm p⟩
theorem sq_tail {g : Bool → Sem Unit} (hg : ∀ (b : Bool) (s₁ : Shared) (Q' : Unit → Shared → Prop), Q' () s₁ → wpAny (model P w) A (g b) Q' E s₁)
    {o : Obj} {es es1 : Array (Int × Value)} {ep : Nat} {t t2 : SetTable} {ks k1 : List Key} (ho : s.heap.get? a = some o) (hex : o.ExactSet) (hd : o.data = .set es ep t) (pk : k1.Perm ks) (en : Ent P w es1.toList k1) (nd : ks.Nodup)
    (hb : es1.size < scanBound) (hf : t2.fits es1.size = true) (hr : Ris t2.place.toList) (hl : w.params.followText "set-order" = true ∨ t2.led = true) {wd : Bool} {R : Option Bool → Shared → Prop}
    (hR : ∀ h', Heap.SameBut a s.heap h' → SQ P w h' a ks → R (some true) { s with heap := h' }) :
    wpAny (model P w) A (do
        storeSet a es1 t2
        if (!wd && t2.tooFull) = true then do
            g (relayAll t2 es1 (SetTable.grown es1.size)).2.2
            storeSet a (relayAll t2 es1 (SetTable.grown es1.size)).1 (relayAll t2 es1 (SetTable.grown es1.size)).2.1
            pure (some true)
          else pure (some true)) R E s := by
  refine wpAny_bind (wpAny_storeSet_of ho hd ?_ (fits_of_scanBound hb))
  have ho1 := store_at (es' := es1) (t' := t2) ho hd
  have sb1 := Heap.SameBut.update s.heap a (Obj.putSet es1 t2)
  split
  · have pm := relayAll_perm t2 es1 (SetTable.grown es1.size)
    have f3 := relayAll_fits t2 es1 (SetTable.grown es1.size)
    have r3 := relayAll_ris t2 es1 (SetTable.grown es1.size)
    have l3 := relayAll_led t2 es1 (SetTable.grown es1.size)
    generalize relayAll t2 es1 (SetTable.grown es1.size) = Z at pm f3 r3 l3 ⊢
    obtain ⟨es2, t3, gv⟩ := Z
    dsimp only at pm f3 r3 l3 ⊢
    have z2 : es2.size = es1.size := by rw [← Array.length_toList, pm.length_eq, Array.length_toList]
    obtain ⟨k2, p2, e2⟩ := ent_perm pm en
    refine wpAny_bind (hg _ _ _ ?_)
    refine wpAny_bind (wpAny_storeSet_of ho1 rfl ?_ (fits_of_scanBound (by rw [z2]; exact hb)))
    have ho2 := store_at (es' := es2) (t' := t3) ho1 rfl
    exact wpAny_pure (hR _ (sb1.trans (Heap.SameBut.update _ a _)) ⟨_, es2, _, t3, k2, ho2, hex, rfl, p2.trans pk, e2, nd, by rw [z2]; exact hb, f3, r3, hl.imp id fun z => by rw [l3]; exact z⟩)
  · exact wpAny_pure (hR _ sb1 ⟨_, es1, _, t2, k1, ho1, hex, rfl, pk, en, nd, hb, hf, hr, hl⟩)
/-- a key comes in -/
def has (ks : List Key) (k : Key) : Bool := ks.any fun q => decide (q = k)
theorem has_iff {ks : List Key} {k : Key} : has ks k = true ↔ k ∈ ks := by
  unfold has
  rw [List.any_eq_true]
  exact ⟨fun ⟨q, hq, e⟩ => (of_decide_eq_true e) ▸ hq, fun h => ⟨k, h, decide_eq_true rfl⟩⟩
def put (ks : List Key) (k : Key) : List Key := if has ks k = true then ks else ks ++ [k]
theorem put_old {ks : List Key} {k : Key} (h : k ∈ ks) : put ks k = ks := if_pos (has_iff.mpr h)
theorem put_new {ks : List Key} {k : Key} (h : k ∉ ks) : put ks k = ks ++ [k] := if_neg fun z => h (has_iff.mp z)
theorem sq_add_hashed {ks : List Key} {k : Key} {x : Value} {Q : Bool → Shared → Prop} (hk : keyIs k x = true) (hsc : x.scannable = true) (R : SQ P w s.heap a ks) (room : ks.length + 1 < scanBound)
    (hQ : ∀ b h', Heap.SameBut a s.heap h' → SQ P w h' a (put ks k) → Q b { s with heap := h' }) :
    wpAny (model P w) A (setAddHashed a x ((mixKind P w).hash k)) Q E s := by
  obtain ⟨o, es, ep, t, k0, ho, hex, hd, p0, en, nd, hb, hf, hr, hl⟩ := R
  have hkey : (mixKind P w).is k x = true := hk
  unfold setAddHashed setAddHashedIn
  refine wpAny_holding (wpAny_bind (wpAny_setState_of ho hd hf ?_))
  dsimp only
  rw [byScan_of hsc hb en.2]
  simp only [↓reduceIte]
  unfold setAddByScan
  refine wpAny_bind ?_
  refine wpAny_bind (wpAny_rule ?_)
  refine wpAny_bind (wpAny_setScan_of hkey ho hd hf en.2 ?_)
  have mem : k ∈ ks ↔ ∃ e ∈ es.toList, (mixKind P w).is k e.2 = true := p0.mem_iff.symm.trans (items_mem en.1 k)
  cases hfi : List.findIdx? (fun e => (mixKind P w).is k e.2) es.toList with
  | some j =>
    dsimp only
    obtain ⟨hj, pj, _⟩ := List.findIdx?_eq_some_iff_getElem.mp hfi
    have hm : k ∈ ks := mem.mpr ⟨es.toList[j], List.getElem_mem hj, pj⟩
    refine wpAny_pure (wpAny_pure (hQ false s.heap (Heap.SameBut.refl a s.heap) ⟨o, es, ep, t, k0, ho, hex, hd, ?_, en, ?_, hb, hf, hr, hl⟩))
    · rw [put_old hm]
      exact p0
    · rw [put_old hm]
      exact nd
  | none =>
    dsimp only
    have hm : k ∉ ks := fun z => by
      obtain ⟨e, he, q⟩ := mem.mp z
      have c := List.findIdx?_eq_none_iff.mp hfi e he
      rw [q] at c
      cases c
    have hgw : ∀ (b : Bool) {s₁ : Shared} {Q' : Unit → Shared → Prop}, Q' () s₁ → wpAny (model P w) A (match b with | true => rule "set.scan.the-table-gave-way" | false => pure ()) Q' E s₁ :=
      fun b s₁ Q' q => by cases b <;> first | exact wpAny_pure q | exact wpAny_rule q
    have pm := layNew_perm t es ((mixKind P w).hash k) x
    have hf1 := layNew_fits t es ((mixKind P w).hash k) x
    have hr1 := layNew_ris t es ((mixKind P w).hash k) x hr
    have hl1 := layNew_led t es ((mixKind P w).hash k) x
    generalize layNew t es ((mixKind P w).hash k) x = Z at pm hf1 hr1 hl1 ⊢
    obtain ⟨es1, t1, wd, gv⟩ := Z
    dsimp only at pm hf1 hr1 hl1 ⊢
    rw [Array.toList_push] at pm
    have en2 : Ent P w (es.toList ++ [((mixKind P w).hash k, x)]) (k0 ++ [k]) := by
      refine ⟨?_, en.2.push hkey hsc⟩
      rw [List.map_append]
      have app : ∀ {ks : List Key} {vs : List Value}, PySem.ItemsAre (mixKind P w) ks vs → PySem.ItemsAre (mixKind P w) (ks ++ [k]) (vs ++ [x]) := by
        intro ks vs h
        induction h with
        | nil => exact .cons hkey .nil
        | cons h1 _ ih => exact .cons h1 ih
      exact app en.1
    obtain ⟨k1, p1, e1⟩ := ent_perm pm en2
    have pp : put ks k = ks ++ [k] := put_new hm
    have pk : k1.Perm (put ks k) := by
      rw [pp]
      exact p1.trans (p0.append_right _)
    have nd1 : (put ks k).Nodup := by
      rw [pp]
      exact List.nodup_append.mpr ⟨nd, by simp, fun q hq r hr e => hm (by rw [← List.mem_singleton.mp hr, ← e]; exact hq)⟩
    have z1 : es1.size < scanBound := by
      rw [ent_len e1, pk.length_eq, pp, List.length_append]
      exact room
    have led1 : w.params.followText "set-order" = true ∨ t1.led = true := hl.imp id fun z => by rw [hl1]; exact z
    refine wpAny_bind (hgw _ ?_)
    split
    · refine wpAny_bind ?_
      rw [hashByValue_scannable 8 hsc]
      refine wpAny_pure ?_
      refine sq_tail ?_ ho hex hd pk e1 nd1 z1 ?_ ?_ ?_ ?_
      · intro b s₁ Q' q; cases b <;> first | exact wpAny_pure q | exact wpAny_rule q
      · first | (split <;> first | exact hf1 | exact SetTable.fits_plain_off hf1) | exact hf1
      · first | (split <;> exact hr1) | exact hr1
      · first | (split <;> exact led1) | exact led1
      · intro h' sb r; dsimp only; exact wpAny_pure (hQ true h' sb r)
    · refine wpAny_bind (wpAny_pure ?_)
      simp only [↓reduceIte]
      refine sq_tail ?_ ho hex hd pk e1 nd1 z1 hf1 hr1 led1 ?_
      · intro b s₁ Q' q; cases b <;> first | exact wpAny_pure q | exact wpAny_rule q
      · intro h' sb r; dsimp only; exact wpAny_pure (hQ true h' sb r)
theorem SQ.setOf {ks : List Key} {h : Heap} (R : SQ P w h a ks) : ∃ S n, h.SetOf (mixKind P w) a S n := by
  obtain ⟨o, es, ep, t, k0, ho, hex, hd, p0, en, nd, hb, hf, hr, hl⟩ := R
  exact ⟨fun k => has k0 k, es.size, o, es, ep, t, ho, hex, hd, en.2, fun k => has_iff.trans (items_mem en.1 k), hb, hf, rfl⟩
/-- s.add(k) -/
theorem sq_add {ks : List Key} {k : Key} {x : Value} {Q : Value → Shared → Prop} (hk : keyIs k x = true) (hsc : x.scannable = true) (R : SQ P w s.heap a ks) (room : ks.length + 1 < scanBound)
    (hQ : ∀ h' tk, Heap.SameBut a s.heap h' → SQ P w h' a (put ks k) → Q .none { s with heap := h', toks := tk }) :
    wpAny (model P w) A (call (.builtin "set.add") [.ref a, x]) Q E s := by
  obtain ⟨S, n, hS⟩ := R.setOf
  refine wpAny_call_entry F.slot_set_add hS.typeIs F.entry_set_add ?_ (F.args_set_add_2 _ _)
  unfold Builtin.«set.add» Builtin.Frozenset.oneOther
  simp only [List.isEmpty_nil, bind_assoc]
  unfold Builtin.Frozenset.addrOf setAdd
  refine wpAny_bind (wpAny_pure ?_)
  try dsimp only
  refine wpAny_bind (wpAny_pure ?_)
  try dsimp only
  refine wpAny_bind ?_
  refine wpAny_holding ?_
  refine wpAny_bind ((mixKind P w).pyHash (show (mixKind P w).is k x = true from hk) ?_)
  refine sq_add_hashed (s := { s with toks := s.toks + 1 }) hk hsc R room fun b h' sb r => ?_
  show wpAny _ _ (ret Value.none) _ _ _
  exact wpAny_pure ⟨_, rfl, hQ h' _ sb r⟩
end
end SetX
end
section
set_option maxHeartbeats 4000000
namespace SetX
open PySem PySem.Spec PyProof.Rows PySem.W L2
def kD : Key → PyData
  | .inl i => .int i
  | .inr x => .str x
/-- a tuple of keys as data -/
def tD (k : List Key) : PyData := .tuple (k.map kD)
section
variable {P : Program} {w : World} {A : Around} {E : Value → Shared → Prop} {s : Shared}
theorem reads_items {h : Heap} {k : List Key} {vs : List Value} (r : PySem.ItemsAre (mixKind P w) k vs) : ReadsAll h vs (k.map kD) [] := by
  induction r with
  | nil => exact .nil
  | @cons q u qs us hq _ ih =>
    rcases keyIs_shape hq with ⟨i, t, rfl, rfl⟩ | ⟨x, t, rfl, rfl⟩
    · exact .cons (.int i t) ih
    · exact .cons (.str x t) ih
theorem reads_row {h : Heap} {k : List Key} {a : Addr} (x : IsM P w h k a) : Reads h (.ref a) (tD k) [] := by
  obtain ⟨o, its, n, ho, hc, hd, hi⟩ := x
  exact .tuple ho hc hd (reads_items hi)
theorem depth_keys : ∀ k : List Key, PyData.depthAll (k.map kD) ≤ 1
  | [] => by decide
  | q :: k => by
    have := depth_keys k
    cases q <;> (simp only [List.map_cons, kD, PyData.depthAll, PyData.depth]; omega)
theorem depth_row (k : List Key) : (tD k).depth ≤ 2 := by
  have := depth_keys k
  simp only [tD, PyData.depth]
  omega
/-- sorted(a set of tuples of one shape) -/
theorem sorted_rows {a : Addr} {L : List Row} {es : Array (Int × Value)} {ep : Nat} {t : SetTable} {Q : Value → Shared → Prop} (R : SM P w s.heap a L es ep t) (hh : A.handled = none) (hu : A.units + 20 < cLine)
    (hal : AllAlike (L.map fun p => tD p.2)) (hne : ∀ p ∈ L, p.2 ≠ [])
    (hQ : ∀ s' p (out : Array Value) (c : Nat) (M : List Row), (∀ b o, s.heap.get? b = some o → s'.heap.get? b = some o) → s'.gens = s.gens → s'.os = s.os → s.heap.objs.size ≤ p →
      s'.heap.get? p = some (seqObj "list" out c) → out.toList = M.map (fun q => Value.ref q.1) → M.Perm L → M.Pairwise (fun q r => dataLt (tD r.2) (tD q.2) = false) → Q (.ref p) s') :
    wpAny (model P w) A (call (.builtin "sorted") [.ref a]) Q E s := by
  obtain ⟨o, ho, hex, hd⟩ := R.ob
  have hsz := R.size
  have few := R.few
  refine Calls.call_function_entry kind_sorted plain_sorted entry_sorted (args_sorted1 _) ?_
  unfold Builtin.«sorted»
  refine wpAny_bind (m := checkCount "sorted" 1 1 _) (wpAny_pure ?_)
  refine wpAny_bind (collect_set (A := A.in1) hh ⟨o, ho, hex.1, hd⟩ R.fits (by unfold scanBound; omega) R.tab.ris R.led fun s1 vs k1 hz g1 o1 pm => ?_)
  have hes : es.toList.map (·.2) = L.map fun q => Value.ref q.1 := by
    rw [R.rows]
    unfold ents
    rw [List.map_map]
    rfl
  rw [hes] at pm
  obtain ⟨L1, pl, e1⟩ : ∃ L1 : List Row, L1.Perm L ∧ vs = L1.map fun q => Value.ref q.1 := by
    have gen : ∀ (vs : List Value) (L : List Row), vs.Perm (L.map fun q => Value.ref q.1) → ∃ L1 : List Row, L1.Perm L ∧ vs = L1.map fun q => Value.ref q.1 := by
      intro vs
      induction vs with
      | nil =>
        intro L pm
        have := pm.length_eq
        rw [List.length_map] at this
        have e : L = [] := List.eq_nil_of_length_eq_zero this.symm
        exact ⟨[], by rw [e], rfl⟩
      | cons v vs ih =>
        intro L pm
        obtain ⟨q, hq, rfl⟩ := List.mem_map.mp (pm.mem_iff.mp (List.mem_cons_self (a := v) (l := vs)))
        obtain ⟨l1, l2, rfl⟩ := List.append_of_mem hq
        have p2 : ((l1 ++ q :: l2).map fun q => Value.ref q.1).Perm (Value.ref q.1 :: ((l1 ++ l2).map fun q => Value.ref q.1)) := by
          have : (l1 ++ q :: l2).Perm (q :: (l1 ++ l2)) := List.perm_middle
          exact this.map _
        obtain ⟨M, pM, eM⟩ := ih (l1 ++ l2) ((pm.trans p2).cons_inv)
        exact ⟨q :: M, (pM.cons q).trans List.perm_middle.symm, by rw [List.map_cons, eM]⟩
    exact gen vs L pm
  have len1 := pl.length_eq
  refine wpAny_bind (wpAny_newList ?_ (by rw [e1, List.length_map, sizeLine_eq]; omega))
  have hoL : (s1.heap.push (seqObj "list" vs.toArray 0)).get? s1.heap.objs.size = some (seqObj "list" vs.toArray 0) := Heap.get?_push_size _ rfl
  have rd : ∀ q ∈ L1, Reads (s1.heap.push (seqObj "list" vs.toArray 0)) (.ref q.1) (tD q.2) [] := fun q hq =>
    reads_row (P := P) (w := w) (isM_kept (R.tup q (pl.mem_iff.mp hq)) fun b u e => Heap.get?_push_of_some _ (k1 b u e))
  have each : ∀ (L1 : List Row) (G : Row → Prop), (∀ q ∈ L1, G q) → EachIs (fun v (q : Row) => v = Value.ref q.1 ∧ G q) (L1.map fun q => Value.ref q.1) L1 := by
    intro L1
    induction L1 with
    | nil => exact fun G _ => .nil
    | cons q L1 ih => exact fun G hG => .cons ⟨rfl, hG q (by simp)⟩ (ih G fun r hr => hG r (by simp [hr]))
  have ea := each L1 (fun q => ∃ as, Reads (s1.heap.push (seqObj "list" vs.toArray 0)) (.ref q.1) (tD q.2) as ∧ s1.heap.objs.size ∉ as) fun q hq => ⟨[], rd q hq, by simp⟩
  rw [← e1] at ea
  have al1 : AllAlike (L1.map fun p : Row => tD p.2) := fun d hd d' hd' => hal d ((pl.map _).mem_iff.mp hd) d' ((pl.map _).mem_iff.mp hd')
  refine wpAny_bind (wpAny_holding (list_sort_data (s := { s1 with heap := s1.heap.push (seqObj "list" vs.toArray 0) }) (bs := L1) (enc := fun q : Row => tD q.2) (R := fun v q => v = Value.ref q.1 ∧ _) hoL ea (ea.mono fun v q h => ?_) al1 (.inl ?_) (by rw [len1, sizeLine_eq]; omega) (fun q hq => ?_) fun out ol oe => ?_))
  · obtain ⟨rfl, z⟩ := h
    exact z
  · intro d hd
    obtain ⟨q, hq, rfl⟩ := List.mem_map.mp hd
    have n := hne q (pl.mem_iff.mp hq)
    cases e : q.2 with
    | nil => exact absurd e n
    | cons x r => exact ⟨kD x, r.map kD, rfl⟩
  · have := depth_row q.2
    show A.in1.units + 1 + (tD q.2).depth < cLine
    have : A.in1.units = A.units + 1 := rfl
    omega
  · obtain ⟨c, hc⟩ := sortedHeap_at (vs := vs) (out := out.toArray) hoL
    have eo : out = (L1.mergeSort (dataLe false fun q : Row => tD q.2)).map fun q => Value.ref q.1 := by
      have gen : ∀ (out : List Value) (M : List Row), EachIs (fun v (q : Row) => v = Value.ref q.1 ∧ ∃ as, Reads (s1.heap.push (seqObj "list" vs.toArray 0)) (.ref q.1) (tD q.2) as ∧ s1.heap.objs.size ∉ as) out M → out = M.map fun q => Value.ref q.1 := by
        intro out M h
        induction h with
        | nil => rfl
        | cons h _ ih => rw [List.map_cons, ← ih, h.1]
      exact gen _ _ oe
    have tot : TotalLe (dataLe false fun q : Row => tD q.2) := sortLe_total _ _ _
    refine wpAny_pure ⟨_, rfl, hQ _ s1.heap.objs.size out.toArray c (L1.mergeSort (dataLe false fun q : Row => tD q.2)) (fun b u e => ?_) g1 o1 hz hc (by rw [← eo]) ((List.mergeSort_perm _ _).trans pl) ?_⟩
    · have q := k1 b u e
      have lt := Heap.lt_size q
      show (sortedHeap (s1.heap.push (seqObj "list" vs.toArray 0)) s1.heap.objs.size vs out.toArray).get? b = some u
      rw [sortedHeap_old (Nat.ne_of_lt lt) (by rw [size_push']; exact Nat.lt_succ_of_lt lt)]
      exact Heap.get?_push_of_some _ q
    · refine (sort_pairwise tot L1).imp fun {q r} h => ?_
      simpa [dataLe_eq] using h
end
/-! ### as rules of the layer -/
/-- the set at a without the tuples -/
def SM0 (P : Program) (w : World) (h : Heap) (a : Addr) (L : List Row) : Prop := ∃ (es : Array (Int × Value)) (ep : Nat) (t : SetTable), (∃ o, h.get? a = some o ∧ o.ExactSet ∧ o.data = .set es ep t) ∧ es.toList = ents P w L ∧ TabOk t (hs P w L) ∧ (L.map (·.2)).Nodup ∧
  (w.params.followText "set-order" = true ∨ t.led = true) ∧ L.length * 5 < t.mask * 3 ∧ L.length < 16
def SetMO (P : Program) (w : World) (a : Addr) (L : List Row) : HO := .ext fun h => SM0 P w h a L
theorem setMO_ok {P : Program} {w : World} {H : Hp} {h : Heap} {a : Addr} {L : List Row} (R : SM0 P w h a L) : ObjOk P w H h a (SetMO P w a L) := by
  have ⟨es, ep, t, ⟨o, ho, r⟩, q⟩ := R
  exact ⟨R, ⟨o, ho⟩, fun h1 h2 ⟨es, ep, t, ⟨o, ho, r⟩, q⟩ k => ⟨es, ep, t, ⟨o, k o ho, r⟩, q⟩⟩
theorem keyIs_of {q : Key} {u : Value} (r : RelV (kV q) u) : keyIs q u = true := by
  cases q with
  | inl i =>
    obtain ⟨t, rfl⟩ := r
    exact keyIs_int i t
  | inr x =>
    obtain ⟨t, rfl⟩ := r
    exact keyIs_str x t
theorem items_keys {P : Program} {w : World} : ∀ {k : List Key} {us : List Value}, Vals (k.map kV) us → PySem.ItemsAre (mixKind P w) k us
  | [], _, .nil => .nil
  | q :: k, _, .cons r t => .cons (keyIs_of r) (items_keys t)
section
variable {X : Cx} {pins : List (Addr × Obj)} {σ : L2.St} {H : Hp} {s : Shared}
theorem isM_of (I : Inv X pins σ H s) {b : Addr} {k : List Key} (h : SqT X.K H b (k.map kV)) : IsM X.prog X.w s.heap k b := by
  obtain ⟨its, r, ⟨o, ho, hc, n, hd⟩, _⟩ := I.tuple h
  exact ⟨o, its.toArray, n, ho, hc, hd, by simpa using items_keys r⟩
theorem refs_row : ∀ {ks : List Row} {us : List Value}, Vals (ks.map fun p => V.ref p.1) us → us = ks.map fun p => Value.ref p.1
  | [], _, .nil => rfl
  | _ :: ks, _, .cons r t => by
    cases r
    rw [refs_row t]
    rfl
theorem row_refs : ∀ ks : List Row, Vals (ks.map fun p => V.ref p.1) (ks.map fun p => Value.ref p.1)
  | [] => .nil
  | _ :: ks => .cons rfl (row_refs ks)
/-- set(xs): xs a list of tuples of ints and texts -/
def rSetM (K : PySem.W.Frag) (P : Program) (w : World) : List V → Hp → VK → Prop := fun xs H Q => ∃ (l : Addr) (ks : List Row), xs = [V.ref l] ∧ SqL K H l (ks.map fun p => V.ref p.1) ∧ (∀ p ∈ ks, SqT K H p.1 (p.2.map kV)) ∧ ks.length < 16 ∧
  ∀ (p : Addr) (L : List Row), H p = none → (∀ q ∈ L, q ∈ ks) → (∀ q ∈ ks, q.2 ∈ L.map (·.2)) → (L.map (·.2)).Nodup → Q (.ref p) (upd H p (SetMO P w p L))
/-- sorted(s): s such a set -/
def rSortedM (K : PySem.W.Frag) (P : Program) (w : World) : List V → Hp → VK → Prop := fun xs H Q => ∃ (a : Addr) (L : List Row), xs = [V.ref a] ∧ H a = some (SetMO P w a L) ∧ (∀ p ∈ L, SqT K H p.1 (p.2.map kV)) ∧ AllAlike (L.map fun p => tD p.2) ∧ (∀ p ∈ L, p.2 ≠ []) ∧
  ∀ (p : Addr) (M : List Row), H p = none → M.Perm L → M.Pairwise (fun q r => dataLt (tD r.2) (tD q.2) = false) → Q (.ref p) (upd H p (.lst (M.map fun q => V.ref q.1)))
theorem cr_setM (hc : X.calm = true) (hu : X.A.units + 64 < cLine) : CallR X (.type "set") (rSetM X.K X.prog X.w) := by
  intro pins s σ H xs us Q I r h
  obtain ⟨l, ks, rfl, hl, hk, hf, q⟩ := h
  rw [Vals.ref1 r]
  obtain ⟨its, rv, pl, hz⟩ := I.list hl
  have hn : H s.heap.objs.size = none := I.hok.fresh (Nat.le_refl _)
  refine set_of_list (P := X.prog) (w := X.w) ks (I.ok.hd hc) pl.isList (by simpa using refs_row rv) (fun p hp => isM_of I (hk p hp)) hf (by omega) fun h' tk L es ep t R g k => ?_
  have R0 : SM0 X.prog X.w h' s.heap.objs.size L := ⟨es, ep, t, R.ob, R.rows, R.tab, R.nd, R.led, R.room, R.few⟩
  refine ⟨.ref s.heap.objs.size, upd H s.heap.objs.size (SetMO X.prog X.w s.heap.objs.size L), I.laid (t' := tk) k (Nat.le_refl _) (setMO_ok R0), rfl, q _ L hn (fun p hp => ?_) (fun p hp => ?_) R.nd⟩
  · exact List.mem_of_mem_take (g.sub p hp)
  · exact g.all p (by rw [List.take_length]; exact hp)
theorem cr_sortedM (hc : X.calm = true) (hu : X.A.units + 64 < cLine) : CallR X (.builtin "sorted") (rSortedM X.K X.prog X.w) := by
  intro pins s σ H vs us Q I r h
  obtain ⟨a, L, rfl, ha, hk, hal, hne, q⟩ := h
  obtain ⟨es, ep, t, h1, h2, h3, h4, h5, h6, h7⟩ : SM0 X.prog X.w s.heap a L := (I.hok a _ ha).1
  rw [Vals.ref1 r]
  refine sorted_rows (P := X.prog) (w := X.w) ⟨h1, h2, h3, h4, fun p hp => isM_of I (hk p hp), h5, h6, h7⟩ (I.ok.hd hc) (by omega) hal hne fun s' p out c M k g o hp hg hout pm pw => ?_
  have few : (M.map fun q => V.ref q.1).length ≤ sizeLine := by rw [List.length_map, pm.length_eq, sizeLine_eq]; omega
  have hn : H p = none := I.hok.fresh hp
  have hv : Vals (M.map fun q => V.ref q.1) out.toList := by rw [hout]; exact row_refs M
  have J : Inv X pins σ (upd H p (.lst (M.map fun q => V.ref q.1))) { s with heap := s'.heap, gens := s'.gens, drawn := s'.drawn, toks := s'.toks } :=
    I.call (ch := []) (Un.laid k hp hn) (I.hok.laid k hp ⟨few, out.toList, c, hv, hg⟩) (by rw [g]; exact I.bare) (fun _ z => nomatch z)
  have e : s' = { s with heap := s'.heap, gens := s'.gens, drawn := s'.drawn, toks := s'.toks } := by
    cases s'
    cases s
    cases o
    rfl
  rw [e]
  exact ⟨.ref p, _, J, rfl, q p M hn pm pw⟩
end
end SetX
end
section
set_option maxHeartbeats 4000000
namespace SetX
open PySem PySem.Spec PyProof.Rows PySem.W L2
section
variable {P : Program} {w : World} {A : Around} {E : Value → Shared → Prop} {s : Shared}
theorem scan_of {k : Key} {v : Value} (h : keyIs k v = true) : v.scannable = true := by
  rcases keyIs_shape h with ⟨i, t, _, rfl⟩ | ⟨x, t, _, rfl⟩ <;> rfl
theorem update_keys {I : Addr} {fp wr : List Addr} {G : Array GenState → Array GenState → Prop} {n : Nat} {Pv : Nat → Value → Prop} {St : Nat → Shared → Prop} {R : Result → Shared → Prop}
    (W : WalksS P w A.in1 I fp wr G n Pv St) (S : Addr) (hSf : S ∉ fp) (ks : List Key) (hn : n = ks.length) (few : ks.length + 1 < scanBound) (hval : ∀ i v, Pv i v → ∃ k, ks[i]? = some k ∧ keyIs k v = true)
    (h0 : Heap) (hS0 : h0.get? S = none) (hw0 : ∀ b ∈ wr, h0.get? b = none) :
    ∀ (k i : Nat) (s : Shared), n - i = k → i ≤ n → St i s → (∀ b o, h0.get? b = some o → s.heap.get? b = some o) → SQ P w s.heap S ((ks.take i).foldl put []) →
      (∀ s', Moved (S :: wr) G s s' → SQ P w s'.heap S (ks.foldl put []) → (∀ b o, h0.get? b = some o → s'.heap.get? b = some o) → R (.ok (.ret .none)) s') →
      codeAny (model P w) A (.builtin "set.update.loop" ⟨[.ref S, .ref I], []⟩) R s := by
  have hSw : S ∉ wr := fun h => hSf (W.sub _ h)
  have up : ∀ b ∈ wr, b ∈ S :: wr := fun b hb => List.mem_cons_of_mem _ hb
  have still : ∀ {s s' : Shared}, Moved wr G s s' → (∀ b o, h0.get? b = some o → s.heap.get? b = some o) → ∀ b o, h0.get? b = some o → s'.heap.get? b = some o := fun hm hkp b o e =>
    hm.heap b o (fun hb => by rw [hw0 b hb] at e; cases e) (hkp b o e)
  have short : ∀ l : List Key, (l.foldl put []).length ≤ l.length := by
    have gen : ∀ (l acc : List Key), (l.foldl put acc).length ≤ acc.length + l.length := by
      intro l
      induction l with
      | nil => exact fun acc => Nat.le_refl _
      | cons k l ih =>
        intro acc
        refine Nat.le_trans (ih (put acc k)) ?_
        by_cases c : k ∈ acc
        · rw [put_old c, List.length_cons]; omega
        · rw [put_new c, List.length_append]; simp only [List.length_cons, List.length_nil]; omega
    intro l
    have := gen l []
    simpa using this
  intro k
  induction k with
  | zero =>
    intro i s hk' hi hst hkp hS hR
    obtain rfl : i = n := by omega
    refine codeAny_builtin F.entry_set_update_loop ?_
    rw [Around.under_plainId F.plain_set_update_loop _]
    show wpAny _ A.in1 (pyNext (.ref I) >>= _) _ _ s
    refine wpAny_bind (W.done s _ _ hst fun s' hm => ?_)
    show wpAny _ A.in1 (ret Value.none) _ _ s'
    rw [List.take_of_length_le (by omega)] at hS
    exact wpAny_pure (hR s' (hm.mono up) (hS.kept fun o e => hm.heap S o hSw e) (still hm hkp))
  | succ k ih =>
    intro i s hk' hi hst hkp hS hR
    have lt : i < n := by omega
    refine codeAny_builtin F.entry_set_update_loop ?_
    rw [Around.under_plainId F.plain_set_update_loop _]
    show wpAny _ A.in1 (pyNext (.ref I) >>= _) _ _ s
    refine wpAny_bind (W.item i s _ _ lt hst fun v s' hP hst' hm => ?_)
    obtain ⟨q, hq, hv⟩ := hval i v hP
    have kp := still hm hkp
    have hS' := hS.kept (h' := s'.heap) fun o e => hm.heap S o hSw e
    show wpAny _ A.in1 (holding [v] (setAdd S v) >>= _) _ _ s'
    refine wpAny_bind (wpAny_holding ?_)
    unfold setAdd
    refine wpAny_holding ?_
    refine wpAny_bind ((mixKind P w).pyHash (show (mixKind P w).is q v = true from hv) ?_)
    have sl : ((ks.take i).foldl put []).length + 1 < scanBound := by
      have := short (ks.take i)
      rw [List.length_take] at this
      omega
    refine sq_add_hashed (s := { s' with toks := s'.toks + 1 }) hv (scan_of hv) hS' sl fun b h' sb hS2 => ?_
    have e2 : put ((ks.take i).foldl put []) q = (ks.take (i + 1)).foldl put [] := by rw [take_one hq, List.foldl_append]; rfl
    rw [e2] at hS2
    have kp2 : ∀ b o, h0.get? b = some o → h'.get? b = some o := fun b o e => (sb.2 b (fun z => by rw [z, hS0] at e; cases e)).trans (kp b o e)
    refine wpAny_pure ⟨plainId_quiet F.plain_set_update_loop _, ih (i + 1) _ (by omega) lt (W.frame _ s' _ _ hst' (Nat.le_add_right _ _) fun b hb o e => ?_) kp2 hS2 fun s'' hm'' hS'' kp'' => ?_⟩
    · rw [sb.2 b (fun h : b = S => hSf (by rw [← h]; exact hb))]
      exact e
    · refine hR s'' (Moved.trans W.gtrans ((hm.mono up).then_heap (Nat.le_add_right _ _) fun b o hb e => ?_) hm'') hS'' kp''
      rw [sb.2 b (fun h : b = S => hb (by rw [h]; exact List.mem_cons_self))]
      exact e
/-- set(xs), xs a list of ints and texts -/
theorem set_of_keys {l : Addr} {items : Array Value} (ks : List Key) {Q : Value → Shared → Prop} (hh : A.handled = none) (hl : s.heap.IsList l items) (hit : PySem.ItemsAre (mixKind P w) ks items.toList) (few : ks.length + 1 < scanBound)
    (h : ∀ (h' : Heap) (tk : Nat), SQ P w h' s.heap.objs.size (ks.foldl put []) → (∀ b o, s.heap.get? b = some o → h'.get? b = some o) → Q (.ref s.heap.objs.size) { s with heap := h', toks := tk }) :
    wpAny (model P w) A (call (.type "set") [.ref l]) Q E s := by
  have isz : items.size = ks.length := by
    have := hit.length
    simpa using this.symm
  have at_ : ∀ {ks : List Key} {vs : List Value}, PySem.ItemsAre (mixKind P w) ks vs → ∀ (i : Nat) (v : Value), vs[i]? = some v → ∃ k, ks[i]? = some k ∧ keyIs k v = true := by
    intro ks vs h
    induction h with
    | nil => exact fun i v e => by simp at e
    | @cons q u qs us hq _ ih =>
      intro i v e
      cases i with
      | zero =>
        cases (Option.some.inj (by simpa using e) : u = v)
        exact ⟨q, rfl, hq⟩
      | succ i => exact ih i v (by simpa using e)
  refine set_call (Fin := fun h' => SQ P w h' s.heap.objs.size (ks.foldl put [])) hh hl (fun fp wr G St W s2 R hf hw st k2 new hR => ?_) fun h' tk R k => h h' tk R k
  refine update_keys W _ hf ks isz few (fun i v e => at_ hit i v (by rw [Array.getElem?_toList]; exact e)) s.heap ?_ hw (items.size - 0) 0 s2 (by omega) (Nat.zero_le _) st k2 (sq_fresh new) fun s' m R k => hR s' m R k
  cases q : s.heap.get? s.heap.objs.size with
  | none => rfl
  | some o => exact absurd (Heap.lt_size q) (Nat.lt_irrefl _)
/-- sorted(s) -/
theorem sorted_keys {a : Addr} {ks : List Key} {Q : Value → Shared → Prop} (R : SQ P w s.heap a ks) (hh : A.handled = none) (hu : A.units + 20 < cLine) (hal : AllAlike (ks.map kD))
    (hQ : ∀ s' p (out : Array Value) (c : Nat) (M : List Key), (∀ b o, s.heap.get? b = some o → s'.heap.get? b = some o) → s'.gens = s.gens → s'.os = s.os → s.heap.objs.size ≤ p →
      s'.heap.get? p = some (seqObj "list" out c) → Vals (M.map kV) out.toList → M.Perm ks → M.Pairwise (fun q r => dataLt (kD r) (kD q) = false) → Q (.ref p) s') :
    wpAny (model P w) A (call (.builtin "sorted") [.ref a]) Q E s := by
  obtain ⟨o, es, ep, t, k0, ho, hex, hd, p0, en, nd, hb, hf, hr, hl⟩ := R
  refine Calls.call_function_entry kind_sorted plain_sorted entry_sorted (args_sorted1 _) ?_
  unfold Builtin.«sorted»
  refine wpAny_bind (m := checkCount "sorted" 1 1 _) (wpAny_pure ?_)
  refine wpAny_bind (collect_set (A := A.in1) hh ⟨o, ho, hex.1, hd⟩ hf hb hr hl fun s1 vs k1 hz g1 o1 pm => ?_)
  obtain ⟨L1, pl, i1⟩ := items_perm pm en.1
  have pl : L1.Perm ks := pl.trans p0
  have len : vs.length = L1.length := i1.length.symm
  have few : L1.length < scanBound := by
    rw [pl.length_eq, ← p0.length_eq, ← ent_len en]
    exact hb
  have few2 : L1.length ≤ sizeLine := Nat.le_trans (Nat.le_of_lt few) (by unfold scanBound; rw [sizeLine_eq]; decide)
  refine wpAny_bind (wpAny_newList ?_ (by rw [len]; exact few2))
  have hoL : (s1.heap.push (seqObj "list" vs.toArray 0)).get? s1.heap.objs.size = some (seqObj "list" vs.toArray 0) := Heap.get?_push_size _ rfl
  have rd : ∀ {k : Key} {v : Value} (h : Heap), keyIs k v = true → Reads h v (kD k) [] := fun {k v} h hk => by
    rcases keyIs_shape hk with ⟨i, t, rfl, rfl⟩ | ⟨x, t, rfl, rfl⟩
    · exact .int i t
    · exact .str x t
  have each : ∀ {ks : List Key} {vs : List Value}, PySem.ItemsAre (mixKind P w) ks vs → EachIs (fun v k => keyIs k v = true) vs ks := by
    intro ks vs h
    induction h with
    | nil => exact .nil
    | cons h1 _ ih => exact .cons h1 ih
  have ea := each i1
  have al1 : AllAlike (L1.map kD) := fun d hd d' hd' => hal d ((pl.map _).mem_iff.mp hd) d' ((pl.map _).mem_iff.mp hd')
  refine wpAny_bind (wpAny_holding (list_sort_data (s := { s1 with heap := s1.heap.push (seqObj "list" vs.toArray 0) }) (bs := L1) (enc := kD) (R := fun v k => keyIs k v = true) hoL ea (ea.mono fun v k h => ⟨[], rd _ h, by simp⟩) al1 (.inr ?_) few2 (fun q hq => ?_) fun out ol oe => ?_))
  · intro d hd
    obtain ⟨q, hq, rfl⟩ := List.mem_map.mp hd
    cases q with
    | inl i => exact ⟨fun z => (nomatch z), fun xs z => (nomatch z)⟩
    | inr x => exact ⟨fun z => (nomatch z), fun xs z => (nomatch z)⟩
  · have e : (kD q).depth = 0 := by cases q <;> rfl
    show A.in1.units + 1 + (kD q).depth < cLine
    have : A.in1.units = A.units + 1 := rfl
    omega
  · obtain ⟨c, hc⟩ := sortedHeap_at (vs := vs) (out := out.toArray) hoL
    have back : ∀ {out : List Value} {M : List Key}, EachIs (fun v k => keyIs k v = true) out M → Vals (M.map kV) out := by
      intro out M h
      induction h with
      | nil => exact .nil
      | @cons v k vs ks h _ ih =>
        refine .cons ?_ ih
        rcases keyIs_shape h with ⟨i, t, rfl, rfl⟩ | ⟨x, t, rfl, rfl⟩
        · exact ⟨t, rfl⟩
        · exact ⟨t, rfl⟩
    refine wpAny_pure ⟨_, rfl, hQ _ s1.heap.objs.size out.toArray c (L1.mergeSort (dataLe false kD)) (fun b u e => ?_) g1 o1 hz hc (back oe) ((List.mergeSort_perm _ _).trans pl) ?_⟩
    · have q := k1 b u e
      have lt := Heap.lt_size q
      show (sortedHeap (s1.heap.push (seqObj "list" vs.toArray 0)) s1.heap.objs.size vs out.toArray).get? b = some u
      rw [sortedHeap_old (Nat.ne_of_lt lt) (by rw [size_push']; exact Nat.lt_succ_of_lt lt)]
      exact Heap.get?_push_of_some _ q
    · refine (sort_pairwise (sortLe_total _ _ _) L1).imp fun {q r} h => ?_
      have h : dataLe false kD q r = true := h
      rw [dataLe_eq] at h
      simpa using h
end
/-! ### as rules -/
def SetQO (P : Program) (w : World) (a : Addr) (ks : List Key) : HO := .ext fun h => SQ P w h a ks
theorem setQO_ok {P : Program} {w : World} {H : Hp} {h : Heap} {a : Addr} {ks : List Key} (R : SQ P w h a ks) : ObjOk P w H h a (SetQO P w a ks) := by
  have ⟨o, es, ep, t, k0, ho, r⟩ := R
  exact ⟨R, ⟨o, ho⟩, fun h1 h2 p k => p.kept k⟩
section
variable {X : Cx}
/-- set(xs), xs a list of ints and texts -/
def rSetQ (K : PySem.W.Frag) (P : Program) (w : World) : List V → Hp → VK → Prop := fun xs H Q => ∃ (l : Addr) (ks : List Key), xs = [V.ref l] ∧ SqL K H l (ks.map kV) ∧ ks.length < 4000 ∧
  ∀ p : Addr, H p = none → Q (.ref p) (upd H p (SetQO P w p (ks.foldl put [])))
def rSortedQ (P : Program) (w : World) : List V → Hp → VK → Prop := fun xs H Q => ∃ (a : Addr) (ks : List Key), xs = [V.ref a] ∧ H a = some (SetQO P w a ks) ∧ AllAlike (ks.map kD) ∧
  ∀ (p : Addr) (M : List Key), H p = none → M.Perm ks → ks.Nodup → M.Pairwise (fun q r => dataLt (kD r) (kD q) = false) → Q (.ref p) (upd H p (.lst (M.map kV)))
theorem cr_setQ (hc : X.calm = true) : CallR X (.type "set") (rSetQ X.K X.prog X.w) := by
  intro pins s σ H xs us Q I r h
  obtain ⟨l, ks, rfl, hl, hf, q⟩ := h
  rw [Vals.ref1 r]
  obtain ⟨its, rv, pl, hz⟩ := I.list hl
  have hn : H s.heap.objs.size = none := I.hok.fresh (Nat.le_refl _)
  refine set_of_keys (P := X.prog) (w := X.w) ks (I.ok.hd hc) pl.isList (by simpa using items_keys rv) (by unfold scanBound; omega) fun h' tk R k => ?_
  exact ⟨.ref s.heap.objs.size, upd H s.heap.objs.size (SetQO X.prog X.w s.heap.objs.size _), I.laid (t' := tk) k (Nat.le_refl _) (setQO_ok R), rfl, q _ hn⟩
theorem cr_sortedQ (hc : X.calm = true) (hu : X.A.units + 64 < cLine) : CallR X (.builtin "sorted") (rSortedQ X.prog X.w) := by
  intro pins s σ H vs us Q I r h
  obtain ⟨a, ks, rfl, ha, hal, q⟩ := h
  have R : SQ X.prog X.w s.heap a ks := (I.hok a _ ha).1
  have nd : ks.Nodup ∧ ks.length < scanBound := by
    obtain ⟨o, es, ep, t, k0, ho, hex, hd, p0, en, nd, hb, _⟩ := R
    exact ⟨nd, by rw [← p0.length_eq, ← ent_len en]; exact hb⟩
  rw [Vals.ref1 r]
  refine sorted_keys (P := X.prog) (w := X.w) R (I.ok.hd hc) (by omega) hal fun s' p out c M k g o hp hg hv pm pw => ?_
  have few : (M.map kV).length ≤ sizeLine := by
    rw [List.length_map, pm.length_eq]
    exact Nat.le_trans (Nat.le_of_lt nd.2) (by unfold scanBound; rw [sizeLine_eq]; decide)
  have hn : H p = none := I.hok.fresh hp
  have J : Inv X pins σ (upd H p (.lst (M.map kV))) { s with heap := s'.heap, gens := s'.gens, drawn := s'.drawn, toks := s'.toks } :=
    I.call (ch := []) (Un.laid k hp hn) (I.hok.laid k hp ⟨few, out.toList, c, hv, hg⟩) (by rw [g]; exact I.bare) (fun _ z => nomatch z)
  have e : s' = { s with heap := s'.heap, gens := s'.gens, drawn := s'.drawn, toks := s'.toks } := by
    cases s'
    cases s
    cases o
    rfl
  rw [e]
  exact ⟨.ref p, _, J, rfl, q p M hn pm nd.1 pw⟩
end
end SetX
end
section
set_option maxHeartbeats 4000000
namespace SetX
open PySem PySem.Spec PyProof.Rows L2 PpSet
section
variable {X : Cx}
theorem addQ_ok {pins : List (Addr × Obj)} {σ : L2.St} {H : Hp} {s : Shared} {E : Value → Shared → Prop} {D : Addr} {ks : List Key} {k : Key} {u : Value} {Q : Value → Shared → Prop} (I : Inv X pins σ H s) (hD : H D = some (SetQO X.prog X.w D ks)) (ru : RelV (kV k) u) (room : ks.length + 1 < scanBound)
    (h : ∀ s', Inv X pins σ (upd H D (SetQO X.prog X.w D (put ks k))) s' → Q .none s') : wpAny (model X.prog X.w) X.A (call (.builtin "set.add") [.ref D, u]) Q E s := by
  have R : SQ X.prog X.w s.heap D ks := (I.hok D _ hD).1
  refine sq_add (P := X.prog) (w := X.w) (keyIs_of ru) (scan_of (keyIs_of ru)) R room fun h' tk sb new => ?_
  have he : ∃ o, h'.get? D = some o := by
    have ⟨o, es, ep, t, k0, ho, _⟩ := new
    exact ⟨o, ho⟩
  exact h _ (I.write (e := D) (t' := tk) (by rw [hD]; trivial) (.inl rfl) (fun b o hb hu => (sb.2 b hb).trans hu) he (setQO_ok new))
/-- {elt for target in iter if ..}, elt an int or a text: D the new set -/
def tSq (P : Program) (w : World) (wi : TI) (g : TG) (tt : TT) (te : TE) (vs : List Nat) : TE := fun σ H Q => wi σ H fun J H1 => ∀ D, H1 D = none → ∃ W : Nat → Nat → Hp → Prop, (∃ m, W 0 m (upd H1 D (SetQO P w D []))) ∧ ∀ i m H, W i m H →
  (J.stop i H ∧ Q (.ref D) H) ∨ (J.go i H ∧ ∃ Nx : Hp → Prop, (∀ H', Nx H' → ∃ m', m' < m ∧ W (i + 1) m' H') ∧ ∀ x H', J.yld i H x H' → g x (wipe σ vs) H' fun σ2 H2 => wipe σ2 vs = wipe σ vs ∧ tt σ2 H2 fun b H3 =>
    if b = true then te σ2 H3 fun y H4 => ∃ (k : Key) (ks : List Key), y = kV k ∧ H4 D = some (SetQO P w D ks) ∧ ks.length + 1 < scanBound ∧ Nx (upd H4 D (SetQO P w D (put ks k))) else Nx H3)
theorem pe_sq {elt tg iter : Expr} {ifs : List Expr} {scope : Scope} {own : List (PySem.Str × Nat)} {pos : Pos} {wi : TI} {g : TG} {tt : TT} {te : TE} (hc : X.calm = true) (hN : X.N.Nodup) (hi : PI X tg iter wi) (ok : BlkOk X.N X.env.scope scope own)
    (hg : ∀ (s : Shared) (H : Hp) (C : Addr) (cl : List (PySem.Str × Addr)) (fp : List Addr), PG (X.blk s H scope (compEnvC scope cl C X.env) fp) tg g) (ht : ∀ (s : Shared) (H : Hp) (C : Addr) (cl : List (PySem.Str × Addr)) (fp : List Addr), PTs (X.blk s H scope (compEnvC scope cl C X.env) fp) ifs tt)
    (he : ∀ (s : Shared) (H : Hp) (C : Addr) (cl : List (PySem.Str × Addr)) (fp : List Addr), PE (X.blk s H scope (compEnvC scope cl C X.env) fp) elt te) (hs : ∀ x, foldedSetIterable iter X.env x = pure x := by intro _; rfl) :
    PE X (.SetComp elt [⟨tg, iter, ifs, 0⟩] scope pos) (tSq X.prog X.w wi g tt te (own.map (·.2))) := by
  refine ⟨fun pins s σ H Q I h => ?_⟩
  rw [eval_SetComp]
  have hRR : ∀ D C s' m H', Inv X pins σ H' s' → Q (.ref D) H' → s'.heap.Ns C m → FpOk X pins H' C → compPost (model X.prog X.w) X.A X.xe none (EP X pins σ Q) (.ref D) C (.ok .next) s' := fun D C s' m H' I' q hn f => ⟨m, hn, fun h'' sb => by
    obtain ⟨f0, f1, f2, f3, f4, f5⟩ := f
    exact ⟨.ref D, H', I'.turned (t' := s'.toks) (fun b o hb e => (sb.2 b hb).trans e) f0 f1 f3 f4 f5, rfl, q⟩⟩
  have hfree : ∀ y ∈ scope.names, y.2 = .free → ∃ c, X.env.cells.lookup y.1 = some c := fun y hy e => by
    rcases ok.free y hy e with k | k
    · exact I.ok.has _ (.inl k)
    · exact I.ok.has _ (.inr k)
  refine wpAny_comprehension_free (use := none) rfl hs (closure_ok hfree) ok.kind (fun y hy e => by rw [ok.uniq y hy, e])
    (thn (hi.run pins s σ H _ I h) fun xv s1 hx => thn hx fun itv s2 h2 => ?_)
  obtain ⟨it, fp, tn, J, H2, rfl, I2, T, st2, f2, q⟩ := h2
  refine newSet_ok (newEnv_comp ?_)
  generalize hD : s2.heap.objs.size = D
  have hDn : H2 D = none := I2.hok.fresh (Nat.le_of_eq hD)
  obtain ⟨W, ⟨m0, w0⟩, turn⟩ := q D hDn
  generalize hs3 : ({ s2 with heap := s2.heap.push (newSetO X.w) } : Shared) = s3
  have I3 : Inv X pins σ (upd H2 D (SetQO X.prog X.w D [])) s3 := by
    rw [← hs3]
    refine I2.laid (t' := s2.toks) (fun b o e => Heap.get?_push_of_some _ e) (Nat.le_of_eq hD) ?_
    rw [← hD]
    exact setQO_ok (sq_fresh (Heap.get?_push_size _ rfl))
  have h3 : s3.heap = s2.heap.push (newSetO X.w) := by rw [← hs3]
  have sz : ∀ b ∈ fp, b < s2.heap.objs.size := fun b hb => by
    obtain ⟨o, e, _⟩ := T.obj _ _ st2 b hb
    exact Heap.lt_size e
  have f3 : ∀ b ∈ fp, FpOk X pins (upd H2 D (SetQO X.prog X.w D [])) b ∧ b < s3.heap.objs.size := fun b hb => by
    have lt := sz b hb
    refine ⟨⟨?_, (f2 b hb).2⟩, by rw [h3, Heap.size_push]; exact Nat.lt_succ_of_lt lt⟩
    rw [upd_ne (by rw [← hD]; exact Nat.ne_of_lt lt)]
    exact (f2 b hb).1
  have st3 : tn 0 s3.heap := T.keep _ _ _ st2 fun b _ o e => by rw [h3]; exact Heap.get?_push_of_some _ e
  have I4 := block_start I3 ok hN f3
  have pg := hg s3 (upd H2 D (SetQO X.prog X.w D [])) s3.heap.objs.size (cellsFrom (s3.heap.objs.size + 1) scope.names (cloFrom X.env.cells scope.names [])) fp
  have pt := ht s3 (upd H2 D (SetQO X.prog X.w D [])) s3.heap.objs.size (cellsFrom (s3.heap.objs.size + 1) scope.names (cloFrom X.env.cells scope.names [])) fp
  have pe := he s3 (upd H2 D (SetQO X.prog X.w D [])) s3.heap.objs.size (cellsFrom (s3.heap.objs.size + 1) scope.names (cloFrom X.env.cells scope.names [])) fp
  show codeAny _ _ (.compStart (.SetComp elt [⟨tg, iter, ifs, 0⟩] scope pos) 0 (.ref it) (.ref D) (compEnvC scope (cellsFrom (s3.heap.objs.size + 1) scope.names (cloFrom X.env.cells scope.names [])) s3.heap.objs.size X.env)) (compPost (model X.prog X.w) X.A X.xe none (EP X pins σ Q) (.ref D) s3.heap.objs.size) { s3 with heap := pushCells (s3.heap.push { cls := .type "dict", data := .dict #[] }) scope.names }
  have nfp : ∀ b ∈ fp, (upd H2 D (SetQO X.prog X.w D [])) b = none := fun b hb => (f3 b hb).1.1
  generalize hce : compEnvC scope (cellsFrom (s3.heap.objs.size + 1) scope.names (cloFrom X.env.cells scope.names [])) s3.heap.objs.size X.env = ce at I4 pg pt pe ⊢
  have cL : ce.locals = s3.heap.objs.size := by subst hce; rfl
  generalize hH3 : upd H2 D (SetQO X.prog X.w D []) = H3 at I3 I4 pg pt pe w0 nfp f3
  generalize hs4 : ({ s3 with heap := pushCells (s3.heap.push { cls := .type "dict", data := .dict #[] }) scope.names } : Shared) = s4 at I4 ⊢
  have st4 : tn 0 s4.heap := T.keep _ _ _ st3 fun b _ o e => by rw [← hs4]; exact pushCells_keeps _ _ _ _ (Heap.get?_push_of_some _ e)
  have stat : ∀ {σ' : L2.St} {H' : Hp} {s' : Shared}, Inv (X.blk s3 H3 scope ce fp) [] σ' H' s' → (∀ b ∈ fp, H' b = none) → ∀ b ∈ fp, FpOk (X.blk s3 H3 scope ce fp) [] H' b := fun {σ' H' s'} I' hn b hb =>
    ⟨hn b hb, (I'.ok.exf b hb).1, I'.ok.exfs b hb, .inl hb, fun x c e => (I'.ok.exf b hb).2 x c e, fun p hp => absurd (show p ∈ ([] : List (Addr × Obj)) ++ [] from hp) (by simp)⟩
  have loop : codeAny (model X.prog X.w) X.A (.compLoop (.SetComp elt [⟨tg, iter, ifs, 0⟩] scope pos) 0 (.ref it) (.ref D) ce) (compPost (model X.prog X.w) X.A X.xe none (EP X pins σ Q) (.ref D) s3.heap.objs.size) s4 := by
    refine compLoopS_any (fun n s' => ∃ i H', Inv (X.blk s3 H3 scope ce fp) [] (wipe σ (own.map (·.2))) H' s' ∧ tn i s'.heap ∧ (∀ b ∈ fp, H' b = none) ∧ W i n H') ?_ m0 ⟨0, H3, I4, st4, nfp, w0⟩
    rintro n s5 ⟨i, H5, I5, st5, n5, w5⟩
    rcases turn i n H5 w5 with ⟨stop, qq⟩ | ⟨go, Nx, hNx, step⟩
    · refine thnF (T.done (X.blk s3 H3 scope ce fp) rfl rfl rfl hc i [] s5 _ H5 (fun _ _ => False) I5 (stat I5 n5) st5 stop) fun r s6 ⟨hr, I6⟩ => ?_
      subst hr
      have I7 : Inv X pins σ H5 s6 := I3.call' (ch := fp) I6.os I6.base I6.hok I6.bare fun b hb => ⟨(f3 b hb).1.2.2.2.1, (f3 b hb).1.2.1, (f3 b hb).1.2.2.2.2.1, (f3 b hb).1.2.2.2.2.2⟩
      have nC : H5 s3.heap.objs.size = none := by
        have z : H5 ce.locals = none := I6.free
        rw [cL] at z
        exact z
      obtain ⟨m, hn, _⟩ := I6.loc
      have hn : s6.heap.Ns ce.locals m := hn
      rw [cL] at hn
      exact hRR D s3.heap.objs.size s6 m H5 I7 qq hn (I3.fpOk (Nat.le_refl _) nC)
    · refine thnF (T.item (X.blk s3 H3 scope ce fp) rfl rfl rfl hc i [] s5 _ H5 (fun _ _ => False) I5 (stat I5 n5) st5 go) fun r s6 ⟨u, hr, h6⟩ => ?_
      subst hr
      refine thnF h6 fun _ s7 ⟨x, H7, I7, r7, y7, st7, n7⟩ => ?_
      have I7' := I7.pinned (stat I7 n7) (T.obj _ _ st7)
      refine thnF (pg.run _ s7 _ H7 x u _ I7' r7 (step x H7 y7)) fun _ s8 ⟨σ8, H8, I8, hw8, q8⟩ => ?_
      refine thnF (pt.run _ s8 σ8 H8 _ I8 q8) fun b s9 ⟨H9, I9, q9⟩ => ?_
      have fin : ∀ {s' : Shared} {H' : Hp}, Inv (X.blk s3 H3 scope ce fp) ([] ++ pinsAt fp s7.heap) σ8 H' s' → Nx H' → ∃ m, m < n ∧ ∃ i H', Inv (X.blk s3 H3 scope ce fp) [] (wipe σ (own.map (·.2))) H' s' ∧ tn i s'.heap ∧ (∀ b ∈ fp, H' b = none) ∧ W i m H' := fun {s' H'} I' nx => by
        obtain ⟨m', hm, w'⟩ := hNx H' nx
        have pin' : ∀ b ∈ fp, ∀ o, s7.heap.get? b = some o → s'.heap.get? b = some o ∧ H' b = none := fun b hb o e =>
          let z := I'.pin (b, o) (List.mem_append_right _ (List.mem_append_right _ (mem_pinsAt hb e)))
          ⟨z.1, z.2.1⟩
        refine ⟨m', hm, i + 1, H', (I'.unpinned (pins := [])).weak (by rw [← hw8, wipe_length]) (fun j v e => ?_), T.keep _ _ _ st7 fun b hb o e => (pin' b hb o e).1, fun b hb => ?_, w'⟩
        · rw [← hw8] at e
          exact (wipe_some e).1
        · obtain ⟨o, e, _⟩ := T.obj _ _ st7 b hb
          exact (pin' b hb o e).2
      cases b with
      | false =>
        simp only [Bool.false_eq_true, if_false] at q9 ⊢
        exact fin I9 q9
      | true =>
        simp only [if_true] at q9 ⊢
        refine thnF (pe.run _ s9 σ8 H9 _ I9 q9) fun z s10 ⟨yv, H10, I10, r10, k, ks, ey, hD10, hz10, nx⟩ => ?_
        subst ey
        exact addQ_ok (X := X.blk s3 H3 scope ce fp) I10 hD10 r10 hz10 fun s11 I11 => fin I11 nx
  exact codeAny_compStart_set loop (T.self X.A 0 _ _ _ st4 loop)
end
/-- over a tuple that the block leaves as it is -/
theorem sq_tup {P : Program} {w : World} {K : PySem.W.Frag} {a : Addr} {xs : List V} {g : TG} {tt : TT} {te : TE} {vs : List Nat} {σ : L2.St} {H1 : Hp} {D : Addr} {Qd : Hp → Prop} (Pv : Nat → Hp → Prop) (h0 : Pv 0 (upd H1 D (SetQO P w D []))) (hl : ∀ i H, i ≤ xs.length → Pv i H → SqT K H a xs)
    (hs : ∀ i x H, xs[i]? = some x → Pv i H → g x (wipe σ vs) H fun σ2 H2 => wipe σ2 vs = wipe σ vs ∧ tt σ2 H2 fun b H3 =>
      if b = true then te σ2 H3 fun y H4 => ∃ (k : Key) (ks : List Key), y = kV k ∧ H4 D = some (SetQO P w D ks) ∧ ks.length + 1 < scanBound ∧ Pv (i + 1) (upd H4 D (SetQO P w D (put ks k))) else Pv (i + 1) H3) (hd : ∀ H, Pv xs.length H → Qd H) :
    ∃ W : Nat → Nat → Hp → Prop, (∃ m, W 0 m (upd H1 D (SetQO P w D []))) ∧ ∀ i m H, W i m H →
      ((Itt K a).stop i H ∧ Qd H) ∨ ((Itt K a).go i H ∧ ∃ Nx : Hp → Prop, (∀ H', Nx H' → ∃ m', m' < m ∧ W (i + 1) m' H') ∧ ∀ x H', (Itt K a).yld i H x H' → g x (wipe σ vs) H' fun σ2 H2 => wipe σ2 vs = wipe σ vs ∧ tt σ2 H2 fun b H3 =>
        if b = true then te σ2 H3 fun y H4 => ∃ (k : Key) (ks : List Key), y = kV k ∧ H4 D = some (SetQO P w D ks) ∧ ks.length + 1 < scanBound ∧ Nx (upd H4 D (SetQO P w D (put ks k))) else Nx H3) := by
  refine ⟨fun i m H => m = xs.length - i ∧ i ≤ xs.length ∧ Pv i H, ⟨xs.length, by simp, Nat.zero_le _, h0⟩, ?_⟩
  rintro i m H ⟨rfl, hi, p⟩
  have q := hl i H hi p
  by_cases lt : i < xs.length
  · refine .inr ⟨⟨xs, xs[i], q, by simp [lt]⟩, Pv (i + 1), fun H' p' => ⟨xs.length - (i + 1), by omega, rfl, lt, p'⟩, fun x H' ⟨e, y⟩ => ?_⟩
    subst e
    exact hs i x _ (y xs q) p
  · obtain rfl : i = xs.length := by omega
    exact .inl ⟨⟨xs, q, Nat.le_refl _⟩, hd H p⟩
end SetX
end
section
set_option maxHeartbeats 4000000
/-! for (i, x) in enumerate(t), t a tuple -/
namespace EnumX
open PySem PySem.Spec PyProof.Rows L2
theorem enum_one {v : Value} {o : Obj} {H : Heap → Prop} (B : Begins v o H) :
    Meets (Builtin.«enumerate.__new__» ⟨[.type "enumerate", v], []⟩) (fun _ R s => H s.heap ∧
      R (.ok (.ret (.ref (s.heap.push o).objs.size))) { s with heap := (s.heap.push o).push { cls := .type "enumerate", data := .fields #[.none, .bool false, .ref s.heap.objs.size, rawInt 0, .none, .none] } }) :=
  .of_wp fun prog w A R s h => by
    obtain ⟨hp, g, d, tk, os⟩ := s
    obtain ⟨h1, h⟩ := h
    have hsub := sub_enumerate
    have q1 : ∀ {A' : Around} {E : Value → Shared → Prop} {Q : Value → Shared → Prop}, Q (.ref hp.objs.size) ⟨hp.push o, g, d, tk, os⟩ → wpAny (model prog w) A' (pyIter v) Q E ⟨hp, g, d, tk, os⟩ :=
      fun q => B.iter prog w _ _ ⟨hp, g, d, tk, os⟩ _ h1 q
    wp_walk using q1
    refine wpAny_stack_any fun st => wpAny_pure ?_
    split
    · rename_i c _ _ _ _ _
      cases (c == Value.type "enumerate")
      · wp_walk using q1
        exact ⟨_, rfl, h⟩
      · wp_walk using q1
        exact ⟨_, rfl, h⟩
    · wp_walk using q1
      exact ⟨_, rfl, h⟩
section
variable {prog : Program} {w : World} {A : Around} {E : Value → Shared → Prop} {s : Shared}
theorem enum_made {v : Value} {o : Obj} {H : Heap → Prop} {Q : Value → Shared → Prop} (B : Begins v o H) (h1 : H s.heap)
    (h : ∀ h', IsEnum h' (s.heap.objs.size + 1) s.heap.objs.size 0 .none → h'.get? s.heap.objs.size = some o → h'.objs.size = s.heap.objs.size + 2 →
      (∀ b o, s.heap.get? b = some o → h'.get? b = some o) → Q (.ref (s.heap.objs.size + 1)) { s with heap := h' }) :
    wpAny (model prog w) A (call (.type "enumerate") [v]) Q E s := by
  refine callType_new F.called_enumerate (by decide) (F.typeCall_enumerate_1 _) (F.newCall_enumerate_1 _) (fun obj => F.args_object_init_2 obj _) F.entry_enumerate_new (enum_one B) ⟨h1, ?_⟩
  have hz : (s.heap.push o).objs.size = s.heap.objs.size + 1 := Heap.size_push ..
  show _ ∧ _
  rw [hz]
  have he : IsEnum ((s.heap.push o).push { cls := .type "enumerate", data := .fields #[.none, .bool false, .ref s.heap.objs.size, rawInt 0, .none, .none] }) (s.heap.objs.size + 1) s.heap.objs.size 0 .none := by
    have := Heap.get?_push_size (s.heap.push o) (o := { cls := .type "enumerate", data := .fields #[.none, .bool false, .ref s.heap.objs.size, rawInt 0, .none, .none] }) rfl
    rw [hz] at this
    exact this
  exact ⟨⟨_, he, rfl⟩, h _ he (Heap.get?_push_of_some _ (Heap.get?_push_size _ B.free)) (by rw [Heap.size_push, hz]) fun b o x => Heap.get?_push_of_some _ (Heap.get?_push_of_some _ x)⟩
end
/-- the tuple at a, its items in new pairs with their numbers -/
def ItE (K : PySem.W.Frag) (a : Addr) : It :=
  ⟨fun i H => ∃ (xs : List V) (x : V), SqT K H a xs ∧ xs[i]? = some x, fun i H v H' => ∃ T x, v = .ref T ∧ H T = none ∧ H' = upd H T (.tup [.int (i : Nat), x]) ∧ ∀ xs, SqT K H a xs → xs[i]? = some x, fun i H => ∃ xs : List V, SqT K H a xs ∧ xs.length = i⟩
theorem turn_e {P : Program} {w : World} {K : PySem.W.Frag} {elts : List Expr} {kk : Nat} {tpos : Pos} (a e it : Addr) :
    Turn P w K (.Tuple elts kk tpos) (ItE K a) [e, it] e (fun i h => (∃ old, IsEnum h e it ((i : Nat) : Int) old) ∧ h.IsTupleIter it a i ∧ e ≠ it ∧ a ≠ e ∧ a ≠ it) where
  mem := by simp
  obj := fun i h st b hb => by
    obtain ⟨⟨old, he⟩, ⟨o, ho, hc, hd⟩, _⟩ := st
    rcases (by simpa using hb : b = e ∨ b = it) with z | z
    · rw [z]
      exact ⟨_, he, fun v q => nomatch q⟩
    · rw [z]
      exact ⟨o, ho, fun v q => by rw [hd] at q; cases q⟩
  keep := fun i h h' st k => let ⟨⟨old, he⟩, hi, r⟩ := st; ⟨⟨old, k e (by simp) _ he⟩, hi.at fun o q => k it (by simp) o q, r⟩
  item := by
    intro X hP hw hK hc i pins s σ H E I hf st hg
    subst hP hw hK
    obtain ⟨⟨old, he⟩, hit, hne, hae, hai⟩ := st
    obtain ⟨xs, x, hq, hx⟩ := hg
    obtain ⟨its, rv, p, hz⟩ := I.tuple hq
    obtain ⟨u, hu, ru⟩ := rv.get hx
    have hel : e < s.heap.objs.size := Heap.lt_size he
    have hil : it < s.heap.objs.size := by obtain ⟨_, q, _⟩ := hit; exact Heap.lt_size q
    have lt : i < its.toArray.size := by
      have := (List.getElem?_eq_some_iff.mp hu).1
      simpa using this
    have D := Draws.tuple (prog := X.prog) (w := X.w) (A := X.A.in1) (I.ok.hd hc) it a hai its.toArray
    refine wpAny_pyNext_enum_itemC D he ⟨hit, p⟩ lt hne (by simp [hne, hae.symm]) fun y h' tk hy ho st' hT hsz hk => ?_
    have ey : y = u := Option.some.inj (hy.symm.trans (by simpa using hu))
    subst ey
    refine ⟨_, rfl, wpAny_letOwnedTupleGo_enum (s := { s with heap := h', toks := tk + 1 }) ho fun h'' he' sb => ?_⟩
    have hT2 : h''.get? s.heap.objs.size = some { cls := .type "tuple", data := .seq #[.int i tk, y] } := (sb.2 _ (Nat.ne_of_gt hel)).trans hT
    have new : ObjOk X.prog X.w (upd H s.heap.objs.size (.tup [.int (i : Nat), x])) h'' s.heap.objs.size (.tup [.int (i : Nat), x]) :=
      ⟨by show 2 ≤ sizeLine; decide, [.int i tk, y], .cons ⟨_, rfl⟩ (.cons ru .nil), ⟨_, hT2, rfl, _, rfl⟩⟩
    have I1 : Inv X pins σ (upd H s.heap.objs.size (.tup [.int (i : Nat), x])) { s with heap := h'', toks := tk + 1 } :=
      I.turnedNew (ch := [e, it]) (fun b ob hb q => (sb.2 b (fun z => hb (by simp [z]))).trans (hk b ob (fun z => hb (by simp [z])) (fun z => hb (by simp [z])) q)) hf (Nat.le_refl _) new
    refine ⟨.ref s.heap.objs.size, _, I1, rfl, ⟨_, x, rfl, I.hok.fresh (Nat.le_refl _), rfl, fun ys hy => by rw [I.tuple_inj hy hq]; exact hx⟩, ⟨⟨y, ?_⟩, st'.1.at fun o q => (sb.2 it (Ne.symm hne)).trans q, hne, hae, hai⟩, fun b hb => ?_⟩
    · have e1 : ((i + 1 : Nat) : Int) = (i : Int) + 1 := by omega
      rw [e1]
      exact he'
    · have hb' : b < s.heap.objs.size := by
        rcases (by simpa using hb : b = e ∨ b = it) with z | z
        · rw [z]; exact hel
        · rw [z]; exact hil
      rw [upd_ne (Nat.ne_of_lt hb')]
      exact (hf b hb).1
  done := by
    intro X hP hw hK hc i pins s σ H E I hf st hg
    subst hP hw hK
    obtain ⟨⟨old, he⟩, hit, hne, hae, hai⟩ := st
    obtain ⟨xs, hq, hx⟩ := hg
    obtain ⟨its, rv, p, hz⟩ := I.tuple hq
    obtain ⟨f0, f1, f2, f3, f4, f5⟩ := hf it (by simp)
    have en : its.toArray.size = i := by
      have := rv.length
      simp
      omega
    have D := Draws.tuple (prog := X.prog) (w := X.w) (A := X.A.in1) (I.ok.hd hc) it a hai its.toArray
    refine wpAny_pyNext_enum_endD D he ⟨by rw [en]; exact hit, p⟩ fun h' eb => ⟨rfl, I.turned (t' := s.toks) (fun b o hb q => eb b o hb q) f0 f1 f3 f4 f5⟩
  self := fun A i s Q E st h => let ⟨⟨_, he⟩, _⟩ := st; wpAny_pyIter_enum he h
def iEnumT (K : PySem.W.Frag) (ta : TA) : TI := fun σ H R => ta σ H fun vs H1 => ∃ a xs, vs = [.ref a] ∧ SqT K H1 a xs ∧ R (ItE K a) H1
theorem pi_enumT {X : Cx} {e : Expr} {ta : TA} {p pos tpos : Pos} {elts : List Expr} {kk : Nat} (hg : Gl X "enumerate") (hm : X.mg "enumerate" = none) (ha : PA X [e] ta) (hs : starEach [e] X.env = [(false, eval e X.env)] := by rfl) :
    PI X (.Tuple elts kk tpos) (.Call (.Name "enumerate" p) [e] [] pos) (iEnumT X.K ta) := by
  refine ⟨fun pins s σ H R I h => ?_⟩
  refine Call_ (ld_blt I hg hm boot_enumerate (PyProof.Rows.callWith_type1 (thn (ha.run pos pins s σ H _ I h) fun us s1 ⟨vs, H1, I1, r1, q1⟩ => ?_) hs rfl))
  obtain ⟨a, xs, rfl, hq, q⟩ := q1
  cases r1 with
  | cons r rr =>
    cases rr
    cases r
    obtain ⟨its, rv, p', hz⟩ := I1.tuple hq
    have la : a < s1.heap.objs.size := by obtain ⟨o, e, _⟩ := p'; exact Heap.lt_size e
    refine enum_made (begins_tuple a its.toArray) p' fun h' he hit hsz hk => wpAny_pyIter_enum he ?_
    have I2 : Inv X pins σ H1 { s1 with heap := h' } := I1.kept (t' := s1.toks) hk
    refine ⟨s1.heap.objs.size + 1, [s1.heap.objs.size + 1, s1.heap.objs.size], _, _, H1, rfl, I2, turn_e a (s1.heap.objs.size + 1) s1.heap.objs.size, ⟨⟨.none, he⟩, ⟨_, hit, rfl, rfl⟩, Nat.succ_ne_self _, Nat.ne_of_lt (Nat.lt_succ_of_lt la), Nat.ne_of_lt la⟩, fun b hb => ?_, q⟩
    have hle : s1.heap.objs.size ≤ b := by
      rcases (by simpa using hb : b = s1.heap.objs.size + 1 ∨ b = s1.heap.objs.size) with z | z
      · rw [z]; exact Nat.le_add_right _ _
      · rw [z]; exact Nat.le_refl _
    exact I1.fpOk hle (I1.hok.fresh hle)
/-- the loop -/
theorem for_enumT {K : PySem.W.Frag} {a : Addr} {xs : List V} {g : TG} {tb : TS} {D : Ends} {σ : L2.St} {H : Hp} (Pv : Nat → L2.St → Hp → Prop) (h0 : Pv 0 σ H) (hq : ∀ i σ H, Pv i σ H → SqT K H a xs)
    (hs : ∀ (i : Nat) (x : V) (T : Addr) (σ : L2.St) (H : Hp), xs[i]? = some x → Pv i σ H → H T = none → g (.ref T) σ (upd H T (.tup [.int (i : Nat), x])) fun σ2 H2 => tb { D with nx := Pv (i + 1), ct := Pv (i + 1), bk := D.nx } σ2 H2) (hd : ∀ σ H, Pv xs.length σ H → D.nx σ H) :
    ∃ W : Nat → Nat → L2.St → Hp → Prop, (∃ m, W 0 m σ H) ∧ ∀ i m σ H, W i m σ H →
      ((ItE K a).stop i H ∧ D.nx σ H) ∨ ((ItE K a).go i H ∧ ∃ N : L2.St → Hp → Prop, (∀ σ' H', N σ' H' → ∃ m', m' < m ∧ W (i + 1) m' σ' H') ∧ ∀ v H', (ItE K a).yld i H v H' → g v σ H' fun σ2 H2 => tb { D with nx := N, ct := N, bk := D.nx } σ2 H2) := by
  refine ⟨fun i m σ H => m = xs.length - i ∧ i ≤ xs.length ∧ Pv i σ H, ⟨xs.length, rfl, Nat.zero_le _, h0⟩, ?_⟩
  rintro i m σ H ⟨rfl, hi, p⟩
  have qx := hq i σ H p
  by_cases lt : i < xs.length
  · refine .inr ⟨⟨xs, _, qx, List.getElem?_eq_getElem lt⟩, Pv (i + 1), fun σ' H' p' => ⟨xs.length - (i + 1), by omega, rfl, lt, p'⟩, fun v H' y => ?_⟩
    obtain ⟨T, x', rfl, hT, rfl, f1⟩ := y
    exact hs i x' T σ H (f1 xs qx) p hT
  · obtain rfl : i = xs.length := by omega
    exact .inl ⟨⟨xs, qx, rfl⟩, hd σ H p⟩
/-- the list comprehension -/
theorem lc_enumT {K : PySem.W.Frag} {a : Addr} {xs : List V} {g : TG} {tt : TT} {te : TE} {vs : List Nat} {σ : L2.St} {H1 : Hp} {D : Addr} {Qd : Hp → Prop} (Pv : Nat → Hp → Prop) (h0 : Pv 0 (upd H1 D (.lst []))) (hl : ∀ i H, i ≤ xs.length → Pv i H → SqT K H a xs)
    (hs : ∀ i x T H, xs[i]? = some x → Pv i H → H T = none → g (.ref T) (wipe σ vs) (upd H T (.tup [.int (i : Nat), x])) fun σ2 H2 => wipe σ2 vs = wipe σ vs ∧ tt σ2 H2 fun b H3 =>
      if b = true then te σ2 H3 fun y H4 => ∃ acc, H4 D = some (.lst acc) ∧ acc.length < sizeLine ∧ Pv (i + 1) (upd H4 D (.lst (acc ++ [y]))) else Pv (i + 1) H3) (hd : ∀ H, Pv xs.length H → Qd H) :
    ∃ W : Nat → Nat → Hp → Prop, (∃ m, W 0 m (upd H1 D (.lst []))) ∧ ∀ i m H, W i m H →
      ((ItE K a).stop i H ∧ Qd H) ∨ ((ItE K a).go i H ∧ ∃ Nx : Hp → Prop, (∀ H', Nx H' → ∃ m', m' < m ∧ W (i + 1) m' H') ∧ ∀ x H', (ItE K a).yld i H x H' → g x (wipe σ vs) H' fun σ2 H2 => wipe σ2 vs = wipe σ vs ∧ tt σ2 H2 fun b H3 =>
        if b = true then te σ2 H3 fun y H4 => ∃ acc, H4 D = some (.lst acc) ∧ acc.length < sizeLine ∧ Nx (upd H4 D (.lst (acc ++ [y]))) else Nx H3) := by
  refine ⟨fun i m H => m = xs.length - i ∧ i ≤ xs.length ∧ Pv i H, ⟨xs.length, by simp, Nat.zero_le _, h0⟩, ?_⟩
  rintro i m H ⟨rfl, hi, p⟩
  have q := hl i H hi p
  by_cases lt : i < xs.length
  · refine .inr ⟨⟨xs, xs[i], q, by simp [lt]⟩, Pv (i + 1), fun H' p' => ⟨xs.length - (i + 1), by omega, rfl, lt, p'⟩, fun x H' y => ?_⟩
    obtain ⟨T, x', rfl, hT, rfl, f1⟩ := y
    exact hs i x' T H (f1 xs q) p hT
  · obtain rfl : i = xs.length := by omega
    exact .inl ⟨⟨xs, q, rfl⟩, hd H p⟩
end EnumX
end
section
set_option maxHeartbeats 4000000
namespace K86
open PySem PySem.Spec PyProof.Rows L2
open C8 (Cal Met Mak pe_c pe_mk pe_mt pe_mt0)
/-! ### the facts, by name -/
def Cn (K : PySem.W.Frag) (mg : Str → Option Value) : Prop := (∃ h : Heap, K.In h ∧ h.Ns mainGlobals mg ∧ extra K = true) ∧ He.SaysD fa fn K
abbrev aLo (K : PySem.W.Frag) : Addr := He.ga K "Longest"
abbrev aTr (K : PySem.W.Frag) : Addr := He.ga K "Translator"
section
variable {K : PySem.W.Frag} {mg : Str → Option Value}
theorem Cn.glo (c : Cn K mg) (i : Nat) {x : Str} (h : fa[i]? = some (.glo x) := by rfl) : mg x = some (.ref (He.ga K x)) := let ⟨⟨_, X, G, _⟩, s⟩ := c; He.glo_ok X G (s.fact i h)
theorem Cn.free (c : Cn K mg) (i : Nat) {x : Str} (h : fa[i]? = some (.free x) := by rfl) : mg x = none := let ⟨⟨_, X, G, _⟩, s⟩ := c; He.free_ok X G (s.fact i h)
theorem Cn.int (c : Cn K mg) (i : Nat) {x : Str} {n : Int} (h : fa[i]? = some (.int x n) := by rfl) : ∃ t, mg x = some (.int n t) := let ⟨⟨_, X, G, _⟩, s⟩ := c; He.int_ok X G (s.fact i h)
theorem Cn.str (c : Cn K mg) (i : Nat) {x z : Str} (h : fa[i]? = some (.str x z) := by rfl) : ∃ t, mg x = some (.str z t) := let ⟨⟨_, X, G, _⟩, s⟩ := c; He.str_ok X G (s.fact i h)
theorem Cn.extra (c : Cn K mg) : extra K = true := let ⟨⟨_, _, _, e⟩, _⟩ := c; e
theorem Cn.fact (c : Cn K mg) (i : Nat) {f : He.Fa} (h : fa[i]? = some f := by rfl) : f.ok K = true := c.2.fact i h
theorem g_is_integer_paces (c : Cn K mg) : mg "is_integer_paces" = some (.ref (He.ga K "is_integer_paces")) := c.glo 0
theorem g_useful_moves (c : Cn K mg) : mg "useful_moves" = some (.ref (He.ga K "useful_moves")) := c.glo 1
theorem g_useful_begins (c : Cn K mg) : mg "useful_begins" = some (.ref (He.ga K "useful_begins")) := c.glo 2
theorem g_loop_in (c : Cn K mg) : mg "loop_in" = some (.ref (He.ga K "loop_in")) := c.glo 3
theorem g_path_lead (c : Cn K mg) : mg "path_lead" = some (.ref (He.ga K "path_lead")) := c.glo 4
theorem g_lead_of (c : Cn K mg) : mg "lead_of" = some (.ref (He.ga K "lead_of")) := c.glo 5
theorem g_greatest_leads (c : Cn K mg) : mg "greatest_leads" = some (.ref (He.ga K "greatest_leads")) := c.glo 6
theorem g_least_leads (c : Cn K mg) : mg "least_leads" = some (.ref (He.ga K "least_leads")) := c.glo 7
theorem g_leads (c : Cn K mg) : mg "leads" = some (.ref (He.ga K "leads")) := c.glo 8
theorem g_pace (c : Cn K mg) : mg "pace" = some (.ref (He.ga K "pace")) := c.glo 9
theorem g_are_rows (c : Cn K mg) : mg "are_rows" = some (.ref (He.ga K "are_rows")) := c.glo 10
theorem g_is_between (c : Cn K mg) : mg "is_between" = some (.ref (He.ga K "is_between")) := c.glo 11
theorem g_is_loop (c : Cn K mg) : mg "is_loop" = some (.ref (He.ga K "is_loop")) := c.glo 12
theorem g_is_useful_run (c : Cn K mg) : mg "is_useful_run" = some (.ref (He.ga K "is_useful_run")) := c.glo 13
theorem g_pace_holds (c : Cn K mg) : mg "pace_holds" = some (.ref (He.ga K "pace_holds")) := c.glo 14
theorem g_is_integer_words (c : Cn K mg) : mg "is_integer_words" = some (.ref (He.ga K "is_integer_words")) := c.glo 15
theorem g_is_letter (c : Cn K mg) : mg "is_letter" = some (.ref (He.ga K "is_letter")) := c.glo 16
theorem g_is_word (c : Cn K mg) : mg "is_word" = some (.ref (He.ga K "is_word")) := c.glo 17
theorem g_is_index (c : Cn K mg) : mg "is_index" = some (.ref (He.ga K "is_index")) := c.glo 18
theorem g_last_of (c : Cn K mg) : mg "last_of" = some (.ref (He.ga K "last_of")) := c.glo 19
theorem g_is_partial (c : Cn K mg) : mg "is_partial" = some (.ref (He.ga K "is_partial")) := c.glo 20
theorem g_begin_states (c : Cn K mg) : mg "begin_states" = some (.ref (He.ga K "begin_states")) := c.glo 21
theorem g_end_states (c : Cn K mg) : mg "end_states" = some (.ref (He.ga K "end_states")) := c.glo 22
theorem g_closed_over (c : Cn K mg) : mg "closed_over" = some (.ref (He.ga K "closed_over")) := c.glo 23
theorem g_reached_states (c : Cn K mg) : mg "reached_states" = some (.ref (He.ga K "reached_states")) := c.glo 24
theorem g_hopeful_states (c : Cn K mg) : mg "hopeful_states" = some (.ref (He.ga K "hopeful_states")) := c.glo 25
theorem g_useful_states (c : Cn K mg) : mg "useful_states" = some (.ref (He.ga K "useful_states")) := c.glo 26
theorem g_is_state (c : Cn K mg) : mg "is_state" = some (.ref (He.ga K "is_state")) := c.glo 27
theorem g_is_pair (c : Cn K mg) : mg "is_pair" = some (.ref (He.ga K "is_pair")) := c.glo 28
theorem g_is_move (c : Cn K mg) : mg "is_move" = some (.ref (He.ga K "is_move")) := c.glo 29
theorem g_ascends (c : Cn K mg) : mg "ascends" = some (.ref (He.ga K "ascends")) := c.glo 30
theorem g_are_pairs (c : Cn K mg) : mg "are_pairs" = some (.ref (He.ga K "are_pairs")) := c.glo 31
theorem g_are_moves (c : Cn K mg) : mg "are_moves" = some (.ref (He.ga K "are_moves")) := c.glo 32
theorem g_law_deck (c : Cn K mg) : mg "_law_deck" = some (.ref (He.ga K "_law_deck")) := c.glo 33
theorem g_law_draw (c : Cn K mg) : mg "_law_draw" = some (.ref (He.ga K "_law_draw")) := c.glo 34
theorem g_law_pick (c : Cn K mg) : mg "_law_pick" = some (.ref (He.ga K "_law_pick")) := c.glo 35
theorem g_law_drawn (c : Cn K mg) : mg "_law_drawn" = some (.ref (He.ga K "_law_drawn")) := c.glo 36
theorem g_law_code (c : Cn K mg) : mg "_law_code" = some (.ref (He.ga K "_law_code")) := c.glo 37
theorem g_law_spread (c : Cn K mg) : mg "_law_spread" = some (.ref (He.ga K "_law_spread")) := c.glo 38
theorem g_law_alive (c : Cn K mg) : mg "_law_alive" = some (.ref (He.ga K "_law_alive")) := c.glo 39
theorem g_law_path (c : Cn K mg) : mg "_law_path" = some (.ref (He.ga K "_law_path")) := c.glo 40
theorem g_law_walk (c : Cn K mg) : mg "_law_walk" = some (.ref (He.ga K "_law_walk")) := c.glo 41
theorem g_law_lead (c : Cn K mg) : mg "_law_lead" = some (.ref (He.ga K "_law_lead")) := c.glo 42
theorem g_law_is_whole (c : Cn K mg) : mg "_law_is_whole" = some (.ref (He.ga K "_law_is_whole")) := c.glo 43
theorem g_law_is_between (c : Cn K mg) : mg "_law_is_between" = some (.ref (He.ga K "_law_is_between")) := c.glo 44
theorem g_law_is_ring (c : Cn K mg) : mg "_law_is_ring" = some (.ref (He.ga K "_law_is_ring")) := c.glo 45
theorem g_law_is_pace (c : Cn K mg) : mg "_law_is_pace" = some (.ref (He.ga K "_law_is_pace")) := c.glo 46
theorem g_law_farthest (c : Cn K mg) : mg "_law_farthest" = some (.ref (He.ga K "_law_farthest")) := c.glo 47
theorem g_law_strolled (c : Cn K mg) : mg "_law_strolled" = some (.ref (He.ga K "_law_strolled")) := c.glo 48
theorem g_law_most (c : Cn K mg) : mg "_law_most" = some (.ref (He.ga K "_law_most")) := c.glo 49
theorem g_law_right (c : Cn K mg) : mg "_law_right" = some (.ref (He.ga K "_law_right")) := c.glo 50
theorem g_law (c : Cn K mg) : mg "law" = some (.ref (He.ga K "law")) := c.glo 51
theorem m_len (c : Cn K mg) : mg "len" = none := c.free 52
theorem m_sum (c : Cn K mg) : mg "sum" = none := c.free 53
theorem m_tuple (c : Cn K mg) : mg "tuple" = none := c.free 54
theorem m_isinstance (c : Cn K mg) : mg "isinstance" = none := c.free 55
theorem m_all (c : Cn K mg) : mg "all" = none := c.free 56
theorem m_sorted (c : Cn K mg) : mg "sorted" = none := c.free 57
theorem m_max (c : Cn K mg) : mg "max" = none := c.free 58
theorem m_min (c : Cn K mg) : mg "min" = none := c.free 59
theorem m_dict (c : Cn K mg) : mg "dict" = none := c.free 60
theorem m_enumerate (c : Cn K mg) : mg "enumerate" = none := c.free 61
theorem m_zip (c : Cn K mg) : mg "zip" = none := c.free 62
theorem m_range (c : Cn K mg) : mg "range" = none := c.free 63
theorem m_set (c : Cn K mg) : mg "set" = none := c.free 64
theorem m_list (c : Cn K mg) : mg "list" = none := c.free 65
theorem m_int (c : Cn K mg) : mg "int" = none := c.free 66
theorem m_repr (c : Cn K mg) : mg "repr" = none := c.free 67
theorem m_str (c : Cn K mg) : mg "str" = none := c.free 68
theorem m_bool (c : Cn K mg) : mg "bool" = none := c.free 69
theorem m_PACE_PARTS (c : Cn K mg) : ∃ t, mg "PACE_PARTS" = some (.int 3 t) := c.int 70
theorem m_BETWEEN_PARTS (c : Cn K mg) : ∃ t, mg "BETWEEN_PARTS" = some (.int 2 t) := c.int 71
theorem m_BETWEEN (c : Cn K mg) : ∃ t, mg "BETWEEN" = some (.str "between" t) := c.str 72
theorem m_RISES (c : Cn K mg) : ∃ t, mg "RISES" = some (.str "rises" t) := c.str 73
theorem m_FALLS (c : Cn K mg) : ∃ t, mg "FALLS" = some (.str "falls" t) := c.str 74
theorem m_LETTERS (c : Cn K mg) : ∃ t, mg "LETTERS" = some (.str "abcdefghijklmnopqrstuvwxyz" t) := c.str 75
theorem m_PARTIAL_PARTS (c : Cn K mg) : ∃ t, mg "PARTIAL_PARTS" = some (.int 2 t) := c.int 76
theorem m_MOST_STATES (c : Cn K mg) : ∃ t, mg "MOST_STATES" = some (.int 999 t) := c.int 77
theorem m_PAIR (c : Cn K mg) : ∃ t, mg "PAIR" = some (.int 2 t) := c.int 78
theorem m_QUADRUPLE (c : Cn K mg) : ∃ t, mg "QUADRUPLE" = some (.int 4 t) := c.int 79
theorem g_Longest (c : Cn K mg) : mg "Longest" = some (.ref (He.ga K "Longest")) := c.glo 80
theorem cl_Longest (c : Cn K mg) : Cls K (He.ga K "Longest") := He.cls_ok (c.fact 81)
theorem mk_Longest (c : Cn K mg) : Mk K (He.ga K "Longest") (He.ma K (He.ga K "Longest") "__init__") := He.mkr_ok (c.fact 82)
theorem n_Longest_translator_told (c : Cn K mg) : NoAttr K (He.ga K "Longest") "translator_told" := He.noat_ok (c.fact 83)
theorem n_Longest_sign (c : Cn K mg) : NoAttr K (He.ga K "Longest") "sign" := He.noat_ok (c.fact 84)
theorem n_Longest_has_floor (c : Cn K mg) : NoAttr K (He.ga K "Longest") "has_floor" := He.noat_ok (c.fact 85)
theorem n_Longest_worths (c : Cn K mg) : NoAttr K (He.ga K "Longest") "worths" := He.noat_ok (c.fact 86)
theorem n_Longest_runs (c : Cn K mg) : NoAttr K (He.ga K "Longest") "runs" := He.noat_ok (c.fact 87)
theorem me_Longest_take (c : Cn K mg) : Meth K (He.ga K "Longest") "take" (He.ma K (He.ga K "Longest") "take") := He.meth_ok (c.fact 88)
theorem me_Longest_follow (c : Cn K mg) : Meth K (He.ga K "Longest") "follow" (He.ma K (He.ga K "Longest") "follow") := He.meth_ok (c.fact 89)
theorem me_Longest_step (c : Cn K mg) : Meth K (He.ga K "Longest") "step" (He.ma K (He.ga K "Longest") "step") := He.meth_ok (c.fact 90)
theorem g_Translator (c : Cn K mg) : mg "Translator" = some (.ref (He.ga K "Translator")) := c.glo 91
theorem cl_Translator (c : Cn K mg) : Cls K (He.ga K "Translator") := He.cls_ok (c.fact 92)
theorem mk_Translator (c : Cn K mg) : Mk K (He.ga K "Translator") (He.ma K (He.ga K "Translator") "__init__") := He.mkr_ok (c.fact 93)
theorem n_Translator_states (c : Cn K mg) : NoAttr K (He.ga K "Translator") "states" := He.noat_ok (c.fact 94)
theorem n_Translator_begins (c : Cn K mg) : NoAttr K (He.ga K "Translator") "begins" := He.noat_ok (c.fact 95)
theorem n_Translator_moves (c : Cn K mg) : NoAttr K (He.ga K "Translator") "moves" := He.noat_ok (c.fact 96)
theorem n_Translator_ends (c : Cn K mg) : NoAttr K (He.ga K "Translator") "ends" := He.noat_ok (c.fact 97)
theorem n_Translator_letters (c : Cn K mg) : NoAttr K (He.ga K "Translator") "letters" := He.noat_ok (c.fact 98)
theorem n_Translator_useful (c : Cn K mg) : NoAttr K (He.ga K "Translator") "useful" := He.noat_ok (c.fact 99)
theorem me_Translator_eq (c : Cn K mg) : Meth K (He.ga K "Translator") "__eq__" (He.ma K (He.ga K "Translator") "__eq__") := He.meth_ok (c.fact 100)
theorem me_Translator_is_partial_run (c : Cn K mg) : Meth K (He.ga K "Translator") "is_partial_run" (He.ma K (He.ga K "Translator") "is_partial_run") := He.meth_ok (c.fact 101)
theorem me_Translator_last_state (c : Cn K mg) : Meth K (He.ga K "Translator") "last_state" (He.ma K (He.ga K "Translator") "last_state") := He.meth_ok (c.fact 102)
theorem F_is_integer_paces (c : Cn K mg) : ∃ fd, FunD K "is_integer" "is_integer" (defArgs s_is_integer_paces) (defBody s_is_integer_paces) (defScope s_is_integer_paces) [] [] (He.ga K "is_integer_paces") fd := c.2.def_ 0 (d := d_is_integer_paces) rfl
theorem F_useful_moves (c : Cn K mg) : ∃ fd, FunD K "useful_moves" "useful_moves" (defArgs s_useful_moves) (defBody s_useful_moves) (defScope s_useful_moves) [] [] (He.ga K "useful_moves") fd := c.2.def_ 1 (d := d_useful_moves) rfl
theorem F_useful_begins (c : Cn K mg) : ∃ fd, FunD K "useful_begins" "useful_begins" (defArgs s_useful_begins) (defBody s_useful_begins) (defScope s_useful_begins) [] [] (He.ga K "useful_begins") fd := c.2.def_ 2 (d := d_useful_begins) rfl
theorem F_loop_in (c : Cn K mg) : ∃ fd, FunD K "loop_in" "loop_in" (defArgs s_loop_in) (defBody s_loop_in) (defScope s_loop_in) [] [] (He.ga K "loop_in") fd := c.2.def_ 3 (d := d_loop_in) rfl
theorem F_path_lead (c : Cn K mg) : ∃ fd, FunD K "path_lead" "path_lead" (defArgs s_path_lead) (defBody s_path_lead) (defScope s_path_lead) [] [] (He.ga K "path_lead") fd := c.2.def_ 4 (d := d_path_lead) rfl
theorem F_lead_of (c : Cn K mg) : ∃ fd, FunD K "lead_of" "lead_of" (defArgs s_lead_of) (defBody s_lead_of) (defScope s_lead_of) [] [] (He.ga K "lead_of") fd := c.2.def_ 5 (d := d_lead_of) rfl
theorem F_greatest_leads (c : Cn K mg) : ∃ fd, FunD K "greatest_leads" "greatest_leads" (defArgs s_greatest_leads) (defBody s_greatest_leads) (defScope s_greatest_leads) [] [] (He.ga K "greatest_leads") fd := c.2.def_ 6 (d := d_greatest_leads) rfl
theorem F_least_leads (c : Cn K mg) : ∃ fd, FunD K "least_leads" "least_leads" (defArgs s_least_leads) (defBody s_least_leads) (defScope s_least_leads) [] [] (He.ga K "least_leads") fd := c.2.def_ 7 (d := d_least_leads) rfl
theorem F_leads (c : Cn K mg) : ∃ fd, FunD K "leads" "leads" (defArgs s_leads) (defBody s_leads) (defScope s_leads) [] [] (He.ga K "leads") fd := c.2.def_ 8 (d := d_leads) rfl
theorem F_pace (c : Cn K mg) : ∃ fd, FunD K "pace" "pace" (defArgs s_pace) (defBody s_pace) (defScope s_pace) [] [] (He.ga K "pace") fd := c.2.def_ 9 (d := d_pace) rfl
theorem F_are_rows (c : Cn K mg) : ∃ fd, FunD K "are_rows" "are_rows" (defArgs s_are_rows) (defBody s_are_rows) (defScope s_are_rows) [] [] (He.ga K "are_rows") fd := c.2.def_ 10 (d := d_are_rows) rfl
theorem F_is_between (c : Cn K mg) : ∃ fd, FunD K "is_between" "is_between" (defArgs s_is_between) (defBody s_is_between) (defScope s_is_between) [] [] (He.ga K "is_between") fd := c.2.def_ 11 (d := d_is_between) rfl
theorem F_is_loop (c : Cn K mg) : ∃ fd, FunD K "is_loop" "is_loop" (defArgs s_is_loop) (defBody s_is_loop) (defScope s_is_loop) [] [] (He.ga K "is_loop") fd := c.2.def_ 12 (d := d_is_loop) rfl
theorem F_is_useful_run (c : Cn K mg) : ∃ fd, FunD K "is_useful_run" "is_useful_run" (defArgs s_is_useful_run) (defBody s_is_useful_run) (defScope s_is_useful_run) [] [] (He.ga K "is_useful_run") fd := c.2.def_ 13 (d := d_is_useful_run) rfl
theorem F_pace_holds (c : Cn K mg) : ∃ fd, FunD K "pace_holds" "pace_holds" (defArgs s_pace_holds) (defBody s_pace_holds) (defScope s_pace_holds) [] [] (He.ga K "pace_holds") fd := c.2.def_ 14 (d := d_pace_holds) rfl
theorem F_is_integer_words (c : Cn K mg) : ∃ fd, FunD K "is_integer" "is_integer" (defArgs s_is_integer_words) (defBody s_is_integer_words) (defScope s_is_integer_words) [] [] (He.ga K "is_integer_words") fd := c.2.def_ 15 (d := d_is_integer_words) rfl
theorem F_is_letter (c : Cn K mg) : ∃ fd, FunD K "is_letter" "is_letter" (defArgs s_is_letter) (defBody s_is_letter) (defScope s_is_letter) [] [] (He.ga K "is_letter") fd := c.2.def_ 16 (d := d_is_letter) rfl
theorem F_is_word (c : Cn K mg) : ∃ fd, FunD K "is_word" "is_word" (defArgs s_is_word) (defBody s_is_word) (defScope s_is_word) [] [] (He.ga K "is_word") fd := c.2.def_ 17 (d := d_is_word) rfl
theorem F_is_index (c : Cn K mg) : ∃ fd, FunD K "is_index" "is_index" (defArgs s_is_index) (defBody s_is_index) (defScope s_is_index) [] [] (He.ga K "is_index") fd := c.2.def_ 18 (d := d_is_index) rfl
theorem F_last_of (c : Cn K mg) : ∃ fd, FunD K "last_of" "last_of" (defArgs s_last_of) (defBody s_last_of) (defScope s_last_of) [] [] (He.ga K "last_of") fd := c.2.def_ 19 (d := d_last_of) rfl
theorem F_is_partial (c : Cn K mg) : ∃ fd, FunD K "is_partial" "is_partial" (defArgs s_is_partial) (defBody s_is_partial) (defScope s_is_partial) [] [] (He.ga K "is_partial") fd := c.2.def_ 20 (d := d_is_partial) rfl
theorem F_begin_states (c : Cn K mg) : ∃ fd, FunD K "begin_states" "begin_states" (defArgs s_begin_states) (defBody s_begin_states) (defScope s_begin_states) [] [] (He.ga K "begin_states") fd := c.2.def_ 21 (d := d_begin_states) rfl
theorem F_end_states (c : Cn K mg) : ∃ fd, FunD K "end_states" "end_states" (defArgs s_end_states) (defBody s_end_states) (defScope s_end_states) [] [] (He.ga K "end_states") fd := c.2.def_ 22 (d := d_end_states) rfl
theorem F_closed_over (c : Cn K mg) : ∃ fd, FunD K "closed_over" "closed_over" (defArgs s_closed_over) (defBody s_closed_over) (defScope s_closed_over) [] [] (He.ga K "closed_over") fd := c.2.def_ 23 (d := d_closed_over) rfl
theorem F_reached_states (c : Cn K mg) : ∃ fd, FunD K "reached_states" "reached_states" (defArgs s_reached_states) (defBody s_reached_states) (defScope s_reached_states) [] [] (He.ga K "reached_states") fd := c.2.def_ 24 (d := d_reached_states) rfl
theorem F_hopeful_states (c : Cn K mg) : ∃ fd, FunD K "hopeful_states" "hopeful_states" (defArgs s_hopeful_states) (defBody s_hopeful_states) (defScope s_hopeful_states) [] [] (He.ga K "hopeful_states") fd := c.2.def_ 25 (d := d_hopeful_states) rfl
theorem F_useful_states (c : Cn K mg) : ∃ fd, FunD K "useful_states" "useful_states" (defArgs s_useful_states) (defBody s_useful_states) (defScope s_useful_states) [] [] (He.ga K "useful_states") fd := c.2.def_ 26 (d := d_useful_states) rfl
theorem F_is_state (c : Cn K mg) : ∃ fd, FunD K "is_state" "is_state" (defArgs s_is_state) (defBody s_is_state) (defScope s_is_state) [] [] (He.ga K "is_state") fd := c.2.def_ 27 (d := d_is_state) rfl
theorem F_is_pair (c : Cn K mg) : ∃ fd, FunD K "is_pair" "is_pair" (defArgs s_is_pair) (defBody s_is_pair) (defScope s_is_pair) [] [] (He.ga K "is_pair") fd := c.2.def_ 28 (d := d_is_pair) rfl
theorem F_is_move (c : Cn K mg) : ∃ fd, FunD K "is_move" "is_move" (defArgs s_is_move) (defBody s_is_move) (defScope s_is_move) [] [] (He.ga K "is_move") fd := c.2.def_ 29 (d := d_is_move) rfl
theorem F_ascends (c : Cn K mg) : ∃ fd, FunD K "ascends" "ascends" (defArgs s_ascends) (defBody s_ascends) (defScope s_ascends) [] [] (He.ga K "ascends") fd := c.2.def_ 30 (d := d_ascends) rfl
theorem F_are_pairs (c : Cn K mg) : ∃ fd, FunD K "are_pairs" "are_pairs" (defArgs s_are_pairs) (defBody s_are_pairs) (defScope s_are_pairs) [] [] (He.ga K "are_pairs") fd := c.2.def_ 31 (d := d_are_pairs) rfl
theorem F_are_moves (c : Cn K mg) : ∃ fd, FunD K "are_moves" "are_moves" (defArgs s_are_moves) (defBody s_are_moves) (defScope s_are_moves) [] [] (He.ga K "are_moves") fd := c.2.def_ 32 (d := d_are_moves) rfl
theorem F_law_deck (c : Cn K mg) : ∃ fd, FunD K "_law_deck" "_law_deck" (defArgs s_law_deck) (defBody s_law_deck) (defScope s_law_deck) [] [] (He.ga K "_law_deck") fd := c.2.def_ 33 (d := d_law_deck) rfl
theorem F_law_draw (c : Cn K mg) : ∃ fd, FunD K "_law_draw" "_law_draw" (defArgs s_law_draw) (defBody s_law_draw) (defScope s_law_draw) [] [] (He.ga K "_law_draw") fd := c.2.def_ 34 (d := d_law_draw) rfl
theorem F_law_pick (c : Cn K mg) : ∃ fd, FunD K "_law_pick" "_law_pick" (defArgs s_law_pick) (defBody s_law_pick) (defScope s_law_pick) [] [] (He.ga K "_law_pick") fd := c.2.def_ 35 (d := d_law_pick) rfl
theorem F_law_drawn (c : Cn K mg) : ∃ fd, FunD K "_law_drawn" "_law_drawn" (defArgs s_law_drawn) (defBody s_law_drawn) (defScope s_law_drawn) [] [] (He.ga K "_law_drawn") fd := c.2.def_ 36 (d := d_law_drawn) rfl
theorem F_law_code (c : Cn K mg) : ∃ fd, FunD K "_law_code" "_law_code" (defArgs s_law_code) (defBody s_law_code) (defScope s_law_code) [] [] (He.ga K "_law_code") fd := c.2.def_ 37 (d := d_law_code) rfl
theorem F_law_spread (c : Cn K mg) : ∃ fd, FunD K "_law_spread" "_law_spread" (defArgs s_law_spread) (defBody s_law_spread) (defScope s_law_spread) [] [] (He.ga K "_law_spread") fd := c.2.def_ 38 (d := d_law_spread) rfl
theorem F_law_alive (c : Cn K mg) : ∃ fd, FunD K "_law_alive" "_law_alive" (defArgs s_law_alive) (defBody s_law_alive) (defScope s_law_alive) [] [] (He.ga K "_law_alive") fd := c.2.def_ 39 (d := d_law_alive) rfl
theorem F_law_path (c : Cn K mg) : ∃ fd, FunD K "_law_path" "_law_path" (defArgs s_law_path) (defBody s_law_path) (defScope s_law_path) [] [] (He.ga K "_law_path") fd := c.2.def_ 40 (d := d_law_path) rfl
theorem F_law_walk (c : Cn K mg) : ∃ fd, FunD K "_law_walk" "_law_walk" (defArgs s_law_walk) (defBody s_law_walk) (defScope s_law_walk) [] [] (He.ga K "_law_walk") fd := c.2.def_ 41 (d := d_law_walk) rfl
theorem F_law_lead (c : Cn K mg) : ∃ fd, FunD K "_law_lead" "_law_lead" (defArgs s_law_lead) (defBody s_law_lead) (defScope s_law_lead) [] [] (He.ga K "_law_lead") fd := c.2.def_ 42 (d := d_law_lead) rfl
theorem F_law_is_whole (c : Cn K mg) : ∃ fd, FunD K "_law_is_whole" "_law_is_whole" (defArgs s_law_is_whole) (defBody s_law_is_whole) (defScope s_law_is_whole) [] [] (He.ga K "_law_is_whole") fd := c.2.def_ 43 (d := d_law_is_whole) rfl
theorem F_law_is_between (c : Cn K mg) : ∃ fd, FunD K "_law_is_between" "_law_is_between" (defArgs s_law_is_between) (defBody s_law_is_between) (defScope s_law_is_between) [] [] (He.ga K "_law_is_between") fd := c.2.def_ 44 (d := d_law_is_between) rfl
theorem F_law_is_ring (c : Cn K mg) : ∃ fd, FunD K "_law_is_ring" "_law_is_ring" (defArgs s_law_is_ring) (defBody s_law_is_ring) (defScope s_law_is_ring) [] [] (He.ga K "_law_is_ring") fd := c.2.def_ 45 (d := d_law_is_ring) rfl
theorem F_law_is_pace (c : Cn K mg) : ∃ fd, FunD K "_law_is_pace" "_law_is_pace" (defArgs s_law_is_pace) (defBody s_law_is_pace) (defScope s_law_is_pace) [] [] (He.ga K "_law_is_pace") fd := c.2.def_ 46 (d := d_law_is_pace) rfl
theorem F_law_farthest (c : Cn K mg) : ∃ fd, FunD K "_law_farthest" "_law_farthest" (defArgs s_law_farthest) (defBody s_law_farthest) (defScope s_law_farthest) [] [] (He.ga K "_law_farthest") fd := c.2.def_ 47 (d := d_law_farthest) rfl
theorem F_law_strolled (c : Cn K mg) : ∃ fd, FunD K "_law_strolled" "_law_strolled" (defArgs s_law_strolled) (defBody s_law_strolled) (defScope s_law_strolled) [] [] (He.ga K "_law_strolled") fd := c.2.def_ 48 (d := d_law_strolled) rfl
theorem F_law_most (c : Cn K mg) : ∃ fd, FunD K "_law_most" "_law_most" (defArgs s_law_most) (defBody s_law_most) (defScope s_law_most) [] [] (He.ga K "_law_most") fd := c.2.def_ 49 (d := d_law_most) rfl
theorem F_law_right (c : Cn K mg) : ∃ fd, FunD K "_law_right" "_law_right" (defArgs s_law_right) (defBody s_law_right) (defScope s_law_right) [] [] (He.ga K "_law_right") fd := c.2.def_ 50 (d := d_law_right) rfl
theorem F_law (c : Cn K mg) : ∃ fd, FunD K "law" "law" (defArgs s_law) (defBody s_law) (defScope s_law) [] [] (He.ga K "law") fd := c.2.def_ 51 (d := d_law) rfl
theorem F_Longest_init (c : Cn K mg) : ∃ fd, FunD K "__init__" "Longest.__init__" (defArgs s_Longest_init) (defBody s_Longest_init) (defScope s_Longest_init) [] [] (He.ma K (He.ga K "Longest") "__init__") fd := c.2.def_ 52 (d := d_Longest_init) rfl
theorem F_Longest_take (c : Cn K mg) : ∃ fd, FunD K "take" "Longest.take" (defArgs s_Longest_take) (defBody s_Longest_take) (defScope s_Longest_take) [] [] (He.ma K (He.ga K "Longest") "take") fd := c.2.def_ 53 (d := d_Longest_take) rfl
theorem F_Longest_follow (c : Cn K mg) : ∃ fd, FunD K "follow" "Longest.follow" (defArgs s_Longest_follow) (defBody s_Longest_follow) (defScope s_Longest_follow) [] [] (He.ma K (He.ga K "Longest") "follow") fd := c.2.def_ 54 (d := d_Longest_follow) rfl
theorem F_Longest_step (c : Cn K mg) : ∃ fd, FunD K "step" "Longest.step" (defArgs s_Longest_step) (defBody s_Longest_step) (defScope s_Longest_step) [] [] (He.ma K (He.ga K "Longest") "step") fd := c.2.def_ 55 (d := d_Longest_step) rfl
theorem F_Translator_init (c : Cn K mg) : ∃ fd, FunD K "__init__" "Translator.__init__" (defArgs s_Translator_init) (defBody s_Translator_init) (defScope s_Translator_init) [] [] (He.ma K (He.ga K "Translator") "__init__") fd := c.2.def_ 56 (d := d_Translator_init) rfl
theorem F_Translator_eq (c : Cn K mg) : ∃ fd, FunD K "__eq__" "Translator.__eq__" (defArgs s_Translator_eq) (defBody s_Translator_eq) (defScope s_Translator_eq) [] [] (He.ma K (He.ga K "Translator") "__eq__") fd := c.2.def_ 57 (d := d_Translator_eq) rfl
theorem F_Translator_is_partial_run (c : Cn K mg) : ∃ fd, FunD K "is_partial_run" "Translator.is_partial_run" (defArgs s_Translator_is_partial_run) (defBody s_Translator_is_partial_run) (defScope s_Translator_is_partial_run) [] [] (He.ma K (He.ga K "Translator") "is_partial_run") fd := c.2.def_ 58 (d := d_Translator_is_partial_run) rfl
theorem F_Translator_last_state (c : Cn K mg) : ∃ fd, FunD K "last_state" "Translator.last_state" (defArgs s_Translator_last_state) (defBody s_Translator_last_state) (defScope s_Translator_last_state) [] [] (He.ma K (He.ga K "Translator") "last_state") fd := c.2.def_ 59 (d := d_Translator_last_state) rfl
end
/-! ### a def, by its body -/
section
variable {P : Program} {w : World} {K : PySem.W.Frag} {mg : Str → Option Value} {base : Heap}
abbrev BindsP (x qual : Str) (st : Stmt) (ps : List Str) : Prop := ∀ (kV doc pm : Value) (an : Option Addr) (cdv ct : Value) (us : List Value), us.length = ps.length → bindArgs (PySem.W.fnOf x qual (defArgs st) (defBody st) (defScope st) .none kV doc pm an cdv ct) ⟨us, []⟩ = pure (ps.zip us)
abbrev BodyP (P : Program) (w : World) (K : PySem.W.Frag) (mg : Str → Option Value) (base : Heap) (k : Nat) (N : List Str) (qual : Str) (st : Stmt) (f : Addr) (sp : Sp) : Prop :=
  ∀ (cdv : Value) (A : Around) (outer : List Env) (s : Shared) (H : Hp) (vs : List V) (Q : VK) (E : XK), Room k (A.deeper (envOfC qual (defScope st) s.heap.objs.size f cdv)) → sp vs H Q E →
      ∃ t, PSs (cxOf CX0 P w K mg base N qual (defScope st) f cdv A outer s H E).nox (defBody st) t ∧ t { nx := fun _ H' => Q .non H', rt := Q } (start N vs) H
theorem mkFn {x qual : Str} {st : Stmt} {f : Addr} {fd : FuncData} {N ps : List Str} {k : Nat} {sp : Sp} (F : FunD K x qual (defArgs st) (defBody st) (defScope st) [] [] f fd) (S : FnScope N ps (defScope st)) (len : ∀ vs H Q E, sp vs H Q E → vs.length = ps.length) (body : BodyP P w K mg base k N qual st f sp) :
    FnOk P w K mg base CX0 (k + 1) f fd ps sp := F.ok S len fun cdv A outer s H vs Q E hr h => let ⟨t, h1, h2⟩ := body cdv A outer s H vs Q E hr h; ⟨t, PSs.nox h1, h2⟩
theorem mkCal {x y qual : Str} {st : Stmt} {N ps : List Str} {k : Nat} {sp : Sp} (F : ∃ fd, FunD K x qual (defArgs st) (defBody st) (defScope st) [] [] (He.ga K y) fd) (g : mg y = some (.ref (He.ga K y))) (S : FnScope N ps (defScope st)) (b : BindsP x qual st ps)
    (len : ∀ vs H Q E, sp vs H Q E → vs.length = ps.length) (body : BodyP P w K mg base k N qual st (He.ga K y) sp) : Cal P w K mg base (k + 1) y sp [] :=
  by
  obtain ⟨fd, F⟩ := F
  exact ⟨⟨_, fd, ps, [], mkFn F S len body, g, F.kp, F.bindsN b, .nil⟩⟩
theorem mkMet {y x qual : Str} {st : Stmt} {N ps : List Str} {k : Nat} {sp : Sp} (F : ∃ fd, FunD K x qual (defArgs st) (defBody st) (defScope st) [] [] (He.ma K (He.ga K y) x) fd) (cl : Cls K (He.ga K y)) (me : Meth K (He.ga K y) x (He.ma K (He.ga K y) x)) (S : FnScope N ps (defScope st)) (b : BindsP x qual st ps)
    (len : ∀ vs H Q E, sp vs H Q E → vs.length = ps.length) (body : BodyP P w K mg base k N qual st (He.ma K (He.ga K y) x) sp) : Met P w K mg base (k + 1) (He.ga K y) x sp [] :=
  by
  obtain ⟨fd, F⟩ := F
  exact ⟨⟨_, fd, ps, [], cl, me, mkFn F S len body, F.bindsN b, .nil⟩⟩
theorem mkMak {y qual : Str} {st : Stmt} {N ps : List Str} {k : Nat} {sp : Sp} (F : ∃ fd, FunD K "__init__" qual (defArgs st) (defBody st) (defScope st) [] [] (He.ma K (He.ga K y) "__init__") fd) (M : Mk K (He.ga K y) (He.ma K (He.ga K y) "__init__")) (g : mg y = some (.ref (He.ga K y))) (S : FnScope N ps (defScope st)) (b : BindsP "__init__" qual st ps)
    (len : ∀ vs H Q E, sp vs H Q E → vs.length = ps.length) (body : BodyP P w K mg base k N qual st (He.ma K (He.ga K y) "__init__") sp) : Mak P w K mg base (k + 1) y (He.ga K y) sp [] :=
  by
  obtain ⟨fd, F⟩ := F
  exact ⟨⟨_, fd, ps, [], M, mkFn F S len body, g, F.bindsN b, .nil⟩⟩
end
section
variable {X : Cx} {x : Str} {pos : Pos}
theorem pe_gint {i : Int} (hg : Gl X x) (hm : ∃ t, X.mg x = some (.int i t)) (hd : (x == ("__debug__" : Str)) = false := by decide) : PE X (.Name x pos) (tC (.int i)) := let ⟨t, h⟩ := hm; pe_glob hg h ⟨t, rfl⟩ hd
theorem pe_gstr {z : Str} (hg : Gl X x) (hm : ∃ t, X.mg x = some (.str z t)) (hd : (x == ("__debug__" : Str)) = false := by decide) : PE X (.Name x pos) (tC (.str z)) := let ⟨t, h⟩ := hm; pe_glob hg h ⟨t, rfl⟩ hd
end
end K86
end
section
set_option maxHeartbeats 4000000
namespace K86
open PySem PySem.Spec PyProof.Rows L2
open C8 (Cal Met Mak pe_c pe_mk pe_mt pe_mt0)
/-! ### rows, machines -/
structure Bg where
  s : Int
  w : Str
  deriving DecidableEq
structure Mv where
  s : Int
  l : Str
  w : Str
  t : Int
  deriving DecidableEq
def Bg.vs (b : Bg) : List V := [.int b.s, .str b.w]
def Mv.vs (m : Mv) : List V := [.int m.s, .str m.l, .str m.w, .int m.t]
def nums (ns : List Int) : List V := ns.map V.int
structure Tr where
  n : Int
  bs : List Bg
  ms : List Mv
  es : List Bg
  us : List Int
  deriving DecidableEq
/-- the values vs are tuples with the rows xs -/
def Rw {α : Type} (f : α → List V) (K : PySem.W.Frag) (H : Hp) (vs : List V) (xs : List α) : Prop := vs.length = xs.length ∧ ∀ (i : Nat) (x : α), xs[i]? = some x → ∃ a, vs[i]? = some (.ref a) ∧ SqT K H a (f x)
def trF (n : Int) (b m e u : Addr) (L : Str) : List (Str × V) := [("states", .int n), ("begins", .ref b), ("moves", .ref m), ("ends", .ref e), ("letters", .str L), ("useful", .ref u)]
/-- words are short, indices lie within -/
structure TrOk (tr : Tr) : Prop where
  bw : ∀ b ∈ tr.bs, b.w.length ≤ 9
  mw : ∀ m ∈ tr.ms, m.w.length ≤ 9
  ln : tr.bs.length ≤ 9 ∧ tr.ms.length ≤ 9 ∧ tr.us.length ≤ 9
structure TrAt (K : PySem.W.Frag) (H : Hp) (t : Addr) (tr : Tr) : Prop where
  ex : ∃ (dx b m e u : Addr) (L : Str) (bv mv ev : List V), H t = some (.ins (aTr K) dx (trF tr.n b m e u L)) ∧ SqT K H b bv ∧ SqT K H m mv ∧ SqT K H e ev ∧ SqT K H u (nums tr.us) ∧ Rw Bg.vs K H bv tr.bs ∧ Rw Mv.vs K H mv tr.ms ∧ Rw Bg.vs K H ev tr.es
  ok : TrOk tr
section
variable {K : PySem.W.Frag} {H H' : Hp} {n : Int} {b m e u a l : Addr} {L : Str} {xs : List V} {o : HO}
theorem trF_states : (trF n b m e u L).lookup ("states" : Str) = some (.int n) := rfl
theorem trF_begins : (trF n b m e u L).lookup ("begins" : Str) = some (.ref b) := rfl
theorem trF_moves : (trF n b m e u L).lookup ("moves" : Str) = some (.ref m) := rfl
theorem trF_ends : (trF n b m e u L).lookup ("ends" : Str) = some (.ref e) := rfl
theorem trF_useful : (trF n b m e u L).lookup ("useful" : Str) = some (.ref u) := rfl
theorem trF_no1 : (trF n b m e u L).lookup ("is_partial_run" : Str) = none := rfl
theorem trF_no2 : (trF n b m e u L).lookup ("last_state" : Str) = none := rfl
/-! ### what stands on -/
theorem sqT_same (h : SqT K H a xs) (e : Same H H') : SqT K H' a xs := by
  rcases h with (h | ⟨o, h⟩) | h
  · exact .inl (.inl (e _ _ h))
  · exact .inl (.inr ⟨o, e _ _ h⟩)
  · exact .inr h
theorem sqL_same (h : SqL K H a xs) (e : Same H H') : SqL K H' a xs := e.seq h
/-- H' has what H has, but for lists, dicts, instances that are written -/
def Im (H H' : Hp) : Prop := (∀ b xs, H b = some (.tup xs) → H' b = some (.tup xs)) ∧ (∀ b o u, H b = some (.frz o u) → H' b = some (.frz o u))
theorem Im.refl (H : Hp) : Im H H := ⟨fun _ _ h => h, fun _ _ _ h => h⟩
theorem Im.trans {H1 H2 H3 : Hp} (a : Im H1 H2) (b : Im H2 H3) : Im H1 H3 := ⟨fun c xs h => b.1 c xs (a.1 c xs h), fun c o u h => b.2 c o u (a.2 c o u h)⟩
theorem Im.same (e : Same H H') : Im H H' := ⟨fun _ _ h => e _ _ h, fun _ _ _ h => e _ _ h⟩
theorem Im.sq (i : Im H H') (h : SqT K H a xs) : SqT K H' a xs := by
  rcases h with (h | ⟨o, h⟩) | h
  · exact .inl (.inl (i.1 _ _ h))
  · exact .inl (.inr ⟨o, i.2 _ _ _ h⟩)
  · exact .inr h
theorem Im.rw {α : Type} {f : α → List V} {ys : List α} (i : Im H H') (h : Rw f K H xs ys) : Rw f K H' xs ys := ⟨h.1, fun j x e => let ⟨a, h1, h2⟩ := h.2 j x e; ⟨a, h1, i.sq h2⟩⟩
/-- a new thing -/
theorem same_new (h : H l = none) : Same H (upd H l o) := fun b u e => by
  rw [upd_ne (ne_of_none e h)]
  exact e
theorem im_new (h : H l = none) : Im H (upd H l o) := Im.same (same_new h)
theorem im_lst {ys : List V} (h : H l = some (.lst ys)) : Im H (upd H l o) := ⟨fun b xs e => by rw [upd_ne (ne_of e h (by intro z; cases z))]; exact e, fun b q v e => by rw [upd_ne (ne_of e h (by intro z; cases z))]; exact e⟩
theorem im_dk {ys : List (Key × V)} (h : H l = some (.dK ys)) : Im H (upd H l o) := ⟨fun b xs e => by rw [upd_ne (ne_of e h (by intro z; cases z))]; exact e, fun b q v e => by rw [upd_ne (ne_of e h (by intro z; cases z))]; exact e⟩
theorem im_ins {C d : Addr} {ys : List (Str × V)} (h : H l = some (.ins C d ys)) : Im H (upd H l o) := ⟨fun b xs e => by rw [upd_ne (ne_of e h (by intro z; cases z))]; exact e, fun b q v e => by rw [upd_ne (ne_of e h (by intro z; cases z))]; exact e⟩
/-- from H0 on everything stands, l is new since: a write at l -/
theorem Same.wr {H0 : Hp} (s : Same H0 H) (h : H0 l = none) : Same H0 (upd H l o) := fun b u e => by
  rw [upd_ne (ne_of_none e h)]
  exact s _ _ e
theorem TrAt.keep {t : Addr} {tr : Tr} (h : TrAt K H t tr) (e : Im H H') (q : ∀ C dx fs, H t = some (.ins C dx fs) → H' t = some (.ins C dx fs)) : TrAt K H' t tr := by
  obtain ⟨⟨dx, b, m, e', u, L, bv, mv, ev, h1, h2, h3, h4, h5, h6, h7, h8⟩, h9⟩ := h
  exact ⟨⟨dx, b, m, e', u, L, bv, mv, ev, q _ _ _ h1, e.sq h2, e.sq h3, e.sq h4, e.sq h5, e.rw h6, e.rw h7, e.rw h8⟩, h9⟩
theorem TrAt.same {t : Addr} {tr : Tr} (h : TrAt K H t tr) (e : Same H H') : TrAt K H' t tr := h.keep (Im.same e) fun _ _ _ q => e _ _ q
theorem Rw.get {α : Type} {f : α → List V} {vs : List V} {ys : List α} {i : Nat} {v : V} (h : Rw f K H vs ys) (e : vs[i]? = some v) : ∃ x a, ys[i]? = some x ∧ v = .ref a ∧ SqT K H a (f x) := by
  have lt : i < ys.length := by
    rw [← h.1]
    exact (List.getElem?_eq_some_iff.mp e).1
  obtain ⟨a, h1, h2⟩ := h.2 i ys[i] (List.getElem?_eq_getElem lt)
  rw [e] at h1
  exact ⟨ys[i], a, List.getElem?_eq_getElem lt, Option.some.inj h1, h2⟩
end
end K86
end
section
set_option maxHeartbeats 4000000
namespace K86
open PySem PySem.Spec PyProof.Rows L2
open C8 (Cal Met Mak pe_c pe_mk pe_mt pe_mt0)
/-! ### rules that tell the written part K by name (within a comprehension the frame's own K does not unify) -/
section
variable {X : Cx} {e o value tg : Expr} {f : Str} {pos pos' tpos : Pos} {ta tv te : TE} (K : PySem.W.Frag)
theorem ixT (hK : X.K = K := by rfl) : IxR X (rIxT K) := hK ▸ ix_tup
theorem ixL (hK : X.K = K := by rfl) : IxR X (rIxL K) := hK ▸ ix_list
theorem ixS (hK : X.K = K := by rfl) : IxR X (fun x y H Q => rIxL K x y H Q ∨ rIxT K x y H Q) := by
  subst hK
  exact ix_list.or ix_tup
theorem opIn (hK : X.K = K := by rfl) : OpR X (compareOp .In) (rIn K false) := hK ▸ op_in_seq
theorem opNotIn (hK : X.K = K := by rfl) : OpR X (compareOp .NotIn) (rIn K true) := hK ▸ op_notIn_seq
def rLenS (K : PySem.W.Frag) : List V → Hp → VK → Prop := fun xs H Q => ∃ p ys, xs = [.ref p] ∧ (SqL K H p ys ∨ SqT K H p ys) ∧ Q (.int ys.length) H
theorem lenS (hK : X.K = K := by rfl) : CallR X (.builtin "len") (rLenS K) := hK ▸ call_len_seq
theorem isi (hK : X.K = K := by rfl) : CallR X (.builtin "isinstance") (rIsi K) := hK ▸ call_isi
theorem eqD (hu : X.A.units + 64 < cLine) (hK : X.K = K := by rfl) : OpR X (compareOp .Eq) (rEqD K) := hK ▸ op_eqD hu
theorem neD (hu : X.A.units + 64 < cLine) (hK : X.K = K := by rfl) : OpR X (compareOp .NotEq) (rNeD K) := hK ▸ op_neD hu
theorem slL (hK : X.K = K := by rfl) : SlR X (rSlL K) := hK ▸ sl_list
theorem slA (hK : X.K = K := by rfl) : SlR X (rSlA K) := hK ▸ sl_tupA
theorem pgT {es : List Expr} {k : Nat} {t : TGs} {n : Nat} (hc : X.calm = true) (h : PGs X es t)
    (hn : (assignEach es X.env).length = n := by rfl) (hst : (assignEach es X.env).findIdx? (·.1) = none := by rfl) (hK : X.K = K := by rfl) : PG X (.Tuple es k pos) (gTup K n t) := hK ▸ pg_tup hc h hn hst
theorem piT (h : PE X e te) (hK : X.K = K := by rfl) : PI X tg e (iTup K te) := hK ▸ pi_tup h
theorem piL (h : PE X e te) (hK : X.K = K := by rfl) : PI X tg e (iList K te) := hK ▸ pi_list h
theorem fldK (he : PE X e ta) (hb : attributeBase e f X.env (eval e X.env) = eval e X.env) (hK : X.K = K := by rfl) : PE X (.Attribute e f pos) (tFld K ta f) := hK ▸ pe_fld he hb
theorem sumI (hK : X.K = K := by rfl) (hc : X.calm = true := by rfl) : CallR X (.builtin "sum") (fun xs H Q => ∃ (a : Addr) (ns : List Int), xs = [.ref a] ∧ SqL K H a (ns.map V.int) ∧ Q (.int ns.sum) H) := by
  subst hK
  intro pins s σ H xs us Q I r h
  obtain ⟨a, ns, e1, e2, e3⟩ := h
  exact cr_sum hc pins s σ H xs us Q I r ⟨a, ns, e1, e2, e3⟩
/-! ### fields by what is known of the instance -/
def tAp (te : TE) (R : V → Hp → VK → Prop) : TE := fun σ H Q => te σ H fun x H1 => R x H1 Q
theorem fldA {R : V → Hp → VK → Prop} (he : PE X e ta) (hb : attributeBase e f X.env (eval e X.env) = eval e X.env)
    (hR : ∀ x H Q, R x H Q → ∃ a C dx fs v, x = .ref a ∧ H a = some (.ins C dx fs) ∧ Cls K C ∧ NoAttr K C f ∧ fs.lookup f = some v ∧ Q v H) (hK : X.K = K := by rfl) : PE X (.Attribute e f pos) (tAp ta R) := by
  subst hK
  refine ⟨fun pins s σ H Q I h => ?_⟩
  refine attr_of hb (thn (he.run pins s σ H _ I h) fun u s1 ⟨x, H1, I1, rx, q⟩ => ?_)
  obtain ⟨a, C, dx, fs, v, ex, ea, c, n, l, q2⟩ := hR x H1 Q q
  subst ex
  obtain rfl : u = Value.ref a := rx
  exact getattr_ok I1 ea c n l fun u' s2 I2 ru => ⟨v, H1, I2, ru, q2⟩
def rStates (K : PySem.W.Frag) : V → Hp → VK → Prop := fun x H Q => ∃ t tr, x = .ref t ∧ TrAt K H t tr ∧ Q (.int tr.n) H
def rBegins (K : PySem.W.Frag) : V → Hp → VK → Prop := fun x H Q => ∃ t tr, x = .ref t ∧ TrAt K H t tr ∧ ∀ b bv, SqT K H b bv → Rw Bg.vs K H bv tr.bs → Q (.ref b) H
def rEnds (K : PySem.W.Frag) : V → Hp → VK → Prop := fun x H Q => ∃ t tr, x = .ref t ∧ TrAt K H t tr ∧ ∀ b bv, SqT K H b bv → Rw Bg.vs K H bv tr.es → Q (.ref b) H
def rMoves (K : PySem.W.Frag) : V → Hp → VK → Prop := fun x H Q => ∃ t tr, x = .ref t ∧ TrAt K H t tr ∧ ∀ b bv, SqT K H b bv → Rw Mv.vs K H bv tr.ms → Q (.ref b) H
def rUseful (K : PySem.W.Frag) : V → Hp → VK → Prop := fun x H Q => ∃ t tr, x = .ref t ∧ TrAt K H t tr ∧ ∀ b, SqT K H b (nums tr.us) → Q (.ref b) H
variable {K} {mg : Str → Option Value}
theorem pe_states (c : Cn K mg) (he : PE X e ta) (hb : attributeBase e "states" X.env (eval e X.env) = eval e X.env := by rfl) (hK : X.K = K := by rfl) : PE X (.Attribute e "states" pos) (tAp ta (rStates K)) :=
  fldA K he hb (fun x H Q ⟨t, tr, e, ⟨⟨dx, b, m, e', u, L, bv, mv, ev, h1, h2, h3, h4, h5, h6, h7, h8⟩, h9⟩, q⟩ => ⟨t, _, dx, _, _, e, h1, cl_Translator c, n_Translator_states c, trF_states, q⟩) hK
theorem pe_begins (c : Cn K mg) (he : PE X e ta) (hb : attributeBase e "begins" X.env (eval e X.env) = eval e X.env := by rfl) (hK : X.K = K := by rfl) : PE X (.Attribute e "begins" pos) (tAp ta (rBegins K)) :=
  fldA K he hb (fun x H Q ⟨t, tr, e, ⟨⟨dx, b, m, e', u, L, bv, mv, ev, h1, h2, h3, h4, h5, h6, h7, h8⟩, h9⟩, q⟩ => ⟨t, _, dx, _, _, e, h1, cl_Translator c, n_Translator_begins c, trF_begins, q _ _ h2 h6⟩) hK
theorem pe_moves (c : Cn K mg) (he : PE X e ta) (hb : attributeBase e "moves" X.env (eval e X.env) = eval e X.env := by rfl) (hK : X.K = K := by rfl) : PE X (.Attribute e "moves" pos) (tAp ta (rMoves K)) :=
  fldA K he hb (fun x H Q ⟨t, tr, e, ⟨⟨dx, b, m, e', u, L, bv, mv, ev, h1, h2, h3, h4, h5, h6, h7, h8⟩, h9⟩, q⟩ => ⟨t, _, dx, _, _, e, h1, cl_Translator c, n_Translator_moves c, trF_moves, q _ _ h3 h7⟩) hK
theorem pe_ends (c : Cn K mg) (he : PE X e ta) (hb : attributeBase e "ends" X.env (eval e X.env) = eval e X.env := by rfl) (hK : X.K = K := by rfl) : PE X (.Attribute e "ends" pos) (tAp ta (rEnds K)) :=
  fldA K he hb (fun x H Q ⟨t, tr, e, ⟨⟨dx, b, m, e', u, L, bv, mv, ev, h1, h2, h3, h4, h5, h6, h7, h8⟩, h9⟩, q⟩ => ⟨t, _, dx, _, _, e, h1, cl_Translator c, n_Translator_ends c, trF_ends, q _ _ h4 h8⟩) hK
theorem pe_useful (c : Cn K mg) (he : PE X e ta) (hb : attributeBase e "useful" X.env (eval e X.env) = eval e X.env := by rfl) (hK : X.K = K := by rfl) : PE X (.Attribute e "useful" pos) (tAp ta (rUseful K)) :=
  fldA K he hb (fun x H Q ⟨t, tr, e, ⟨⟨dx, b, m, e', u, L, bv, mv, ev, h1, h2, h3, h4, h5, h6, h7, h8⟩, h9⟩, q⟩ => ⟨t, _, dx, _, _, e, h1, cl_Translator c, n_Translator_useful c, trF_useful, q _ h5⟩) hK
end
/-! ### < on data -/
section
variable {X : Cx} (K : PySem.W.Frag)
def rLtD (K : PySem.W.Frag) : R2 := fun x y H Q => ∃ d e, Dp K H x d ∧ Dp K H y e ∧ PySem.W.alike d e = true ∧ d ≠ .none ∧ d.depth ≤ 63 ∧ Q (.bl (PySem.W.dataLt d e)) H
theorem ltD (hu : X.A.units + 64 < cLine) (hK : X.K = K := by rfl) : OpR X (compareOp .Lt) (rLtD K) := by
  subst hK
  intro pins s σ H x y v u Q I rx ry h
  obtain ⟨d, e, hd, he, al, nn, dp, q⟩ := h
  obtain ⟨as, r1⟩ := Dp.reads I d x v hd rx
  obtain ⟨bs, r2⟩ := Dp.reads I e y u he ry
  exact PySem.W.lt_data r1 r2 al nn (by have := Nat.min_le_left d.depth e.depth; omega) ⟨.bl _, H, I, rfl, q⟩
end
/-! ### enumerate over a list: the turns -/
section
theorem for_enumL {K : PySem.W.Frag} {a : Addr} {xs : List V} {g : TG} {tb : TS} {D : Ends} {σ : L2.St} {H : Hp} (Pv : Nat → L2.St → Hp → Prop) (h0 : Pv 0 σ H) (hq : ∀ i σ H, Pv i σ H → SqL K H a xs)
    (hs : ∀ (i : Nat) (x : V) (T : Addr) (σ : L2.St) (H : Hp), xs[i]? = some x → Pv i σ H → H T = none → g (.ref T) σ (upd H T (.tup [.int (i : Nat), x])) fun σ2 H2 => tb { D with nx := Pv (i + 1), ct := Pv (i + 1), bk := D.nx } σ2 H2) (hd : ∀ σ H, Pv xs.length σ H → D.nx σ H) :
    ∃ W : Nat → Nat → L2.St → Hp → Prop, (∃ m, W 0 m σ H) ∧ ∀ i m σ H, W i m σ H →
      ((Ite K a).stop i H ∧ D.nx σ H) ∨ ((Ite K a).go i H ∧ ∃ N : L2.St → Hp → Prop, (∀ σ' H', N σ' H' → ∃ m', m' < m ∧ W (i + 1) m' σ' H') ∧ ∀ v H', (Ite K a).yld i H v H' → g v σ H' fun σ2 H2 => tb { D with nx := N, ct := N, bk := D.nx } σ2 H2) := by
  refine ⟨fun i m σ H => m = xs.length - i ∧ i ≤ xs.length ∧ Pv i σ H, ⟨xs.length, rfl, Nat.zero_le _, h0⟩, ?_⟩
  rintro i m σ H ⟨rfl, hi, p⟩
  have qx := hq i σ H p
  by_cases lt : i < xs.length
  · refine .inr ⟨⟨xs, _, qx, List.getElem?_eq_getElem lt⟩, Pv (i + 1), fun σ' H' p' => ⟨xs.length - (i + 1), by omega, rfl, lt, p'⟩, fun v H' y => ?_⟩
    obtain ⟨T, x', rfl, hT, rfl, f1⟩ := y
    exact hs i x' T σ H (f1 xs qx) p hT
  · obtain rfl : i = xs.length := by omega
    exact .inl ⟨⟨xs, qx, Nat.le_refl _⟩, hd σ H p⟩
theorem lc_enumL {K : PySem.W.Frag} {a : Addr} {xs : List V} {g : TG} {tt : TT} {te : TE} {vs : List Nat} {σ : L2.St} {H1 : Hp} {D : Addr} {Qd : Hp → Prop} (Pv : Nat → Hp → Prop) (h0 : Pv 0 (upd H1 D (.lst []))) (hl : ∀ i H, i ≤ xs.length → Pv i H → SqL K H a xs)
    (hs : ∀ i x T H, xs[i]? = some x → Pv i H → H T = none → g (.ref T) (wipe σ vs) (upd H T (.tup [.int (i : Nat), x])) fun σ2 H2 => wipe σ2 vs = wipe σ vs ∧ tt σ2 H2 fun b H3 =>
      if b = true then te σ2 H3 fun y H4 => ∃ acc, H4 D = some (.lst acc) ∧ acc.length < sizeLine ∧ Pv (i + 1) (upd H4 D (.lst (acc ++ [y]))) else Pv (i + 1) H3) (hd : ∀ H, Pv xs.length H → Qd H) :
    ∃ W : Nat → Nat → Hp → Prop, (∃ m, W 0 m (upd H1 D (.lst []))) ∧ ∀ i m H, W i m H →
      ((Ite K a).stop i H ∧ Qd H) ∨ ((Ite K a).go i H ∧ ∃ Nx : Hp → Prop, (∀ H', Nx H' → ∃ m', m' < m ∧ W (i + 1) m' H') ∧ ∀ x H', (Ite K a).yld i H x H' → g x (wipe σ vs) H' fun σ2 H2 => wipe σ2 vs = wipe σ vs ∧ tt σ2 H2 fun b H3 =>
        if b = true then te σ2 H3 fun y H4 => ∃ acc, H4 D = some (.lst acc) ∧ acc.length < sizeLine ∧ Nx (upd H4 D (.lst (acc ++ [y]))) else Nx H3) := by
  refine ⟨fun i m H => m = xs.length - i ∧ i ≤ xs.length ∧ Pv i H, ⟨xs.length, by simp, Nat.zero_le _, h0⟩, ?_⟩
  rintro i m H ⟨rfl, hi, p⟩
  have q := hl i H hi p
  by_cases lt : i < xs.length
  · refine .inr ⟨⟨xs, xs[i], q, by simp [lt]⟩, Pv (i + 1), fun H' p' => ⟨xs.length - (i + 1), by omega, rfl, lt, p'⟩, fun x H' y => ?_⟩
    obtain ⟨T, x', rfl, hT, rfl, f1⟩ := y
    exact hs i x' T H (f1 xs q) p hT
  · obtain rfl : i = xs.length := by omega
    exact .inl ⟨⟨xs, q, Nat.le_refl _⟩, hd H p⟩
end
end K86
end
section
set_option maxHeartbeats 4000000
namespace K86
open PySem PySem.Spec PyProof.Rows L2
open C8 (Cal Met Mak pe_c pe_mk pe_mt pe_mt0)
section
variable {P : Program} {w : World} {K : PySem.W.Frag} {mg : Str → Option Value} {base : Heap}
def N_is_integer_paces : List Str := ["thing"]
theorem sc_is_integer_paces : FnScope N_is_integer_paces ["thing"] (defScope s_is_integer_paces) := ⟨rfl, rfl, rfl, by decide +kernel, rfl, by decide +kernel, by decide +kernel⟩
def N_is_integer_words : List Str := ["thing"]
theorem sc_is_integer_words : FnScope N_is_integer_words ["thing"] (defScope s_is_integer_words) := ⟨rfl, rfl, rfl, by decide +kernel, rfl, by decide +kernel, by decide +kernel⟩
def sp_is_integer_paces (K : PySem.W.Frag) : Sp := fun vs H Q _ => ∃ i : Int, vs = [.int i] ∧ Q (.bl true) H
abbrev sp_is_integer_words (K : PySem.W.Frag) : Sp := sp_is_integer_paces K
theorem C_is_integer_paces (c : Cn K mg) : Cal P w K mg base 1 "is_integer_paces" (sp_is_integer_paces K) [] := by
  refine mkCal (F_is_integer_paces c) (g_is_integer_paces c) sc_is_integer_paces (fun _ _ _ _ _ _ us hl => match us, hl with | [_], _ => rfl) (fun vs H Q E h => ?_) (fun cdv A outer s H vs Q E hr h => ?_)
  · obtain ⟨i, rfl, _⟩ := h
    rfl
  · obtain ⟨i, rfl, q⟩ := h
    refine ⟨_, (pss_one (ps_ret (pe_and (pe_callB (isi K) (by rfl) (m_isinstance c) (by decide +kernel) (pa_cons (pv 0) (pa_cons (pe_bltn (v := .ty "int") (by rfl) (m_int c) (by decide +kernel) rfl) pa_nil))) (pe_one (pe_not (pe_callB (isi K) (by rfl) (m_isinstance c) (by decide +kernel) (pa_cons (pv 0) (pa_cons (pe_bltn (v := .ty "bool") (by rfl) (m_bool c) (by decide +kernel) rfl) pa_nil)))))))), ?_⟩
    refine ⟨_, rfl, _, _, _, _, true, rfl, .ty _, .base (.int _), kit_ty (by decide +kernel), _, rfl, ?_⟩
    refine ⟨_, rfl, _, _, _, _, false, rfl, .ty _, .base (.int _), kit_ty (by decide +kernel), _, rfl, ?_⟩
    exact q
theorem C_is_integer_words (c : Cn K mg) : Cal P w K mg base 1 "is_integer_words" (sp_is_integer_words K) [] := by
  refine mkCal (F_is_integer_words c) (g_is_integer_words c) sc_is_integer_words (fun _ _ _ _ _ _ us hl => match us, hl with | [_], _ => rfl) (fun vs H Q E h => ?_) (fun cdv A outer s H vs Q E hr h => ?_)
  · obtain ⟨i, rfl, _⟩ := h
    rfl
  · obtain ⟨i, rfl, q⟩ := h
    refine ⟨_, (pss_one (ps_ret (pe_and (pe_callB (isi K) (by rfl) (m_isinstance c) (by decide +kernel) (pa_cons (pv 0) (pa_cons (pe_bltn (v := .ty "int") (by rfl) (m_int c) (by decide +kernel) rfl) pa_nil))) (pe_one (pe_not (pe_callB (isi K) (by rfl) (m_isinstance c) (by decide +kernel) (pa_cons (pv 0) (pa_cons (pe_bltn (v := .ty "bool") (by rfl) (m_bool c) (by decide +kernel) rfl) pa_nil)))))))), ?_⟩
    refine ⟨_, rfl, _, _, _, _, true, rfl, .ty _, .base (.int _), kit_ty (by decide +kernel), _, rfl, ?_⟩
    refine ⟨_, rfl, _, _, _, _, false, rfl, .ty _, .base (.int _), kit_ty (by decide +kernel), _, rfl, ?_⟩
    exact q
def N_path_lead : List Str := ["translator", "path", "index"]
theorem sc_path_lead : FnScope N_path_lead ["translator", "path"] (defScope s_path_lead) := ⟨rfl, rfl, rfl, by decide +kernel, rfl, by decide +kernel, by decide +kernel⟩
def leadAt (tr : Tr) (i : Int) : Int := match tr.ms[i.toNat]? with
  | some m => (m.w.length : Int) - 1
  | none => 0
def pathLead (tr : Tr) (ns : List Int) : Int := (ns.map (leadAt tr)).sum
def Within (tr : Tr) (ns : List Int) : Prop := ∀ i ∈ ns, 0 ≤ i ∧ i < tr.ms.length
theorem nums_get {ns : List Int} {i : Nat} {x : V} (e : (nums ns)[i]? = some x) : ∃ k, x = .int k ∧ ns[i]? = some k := by
  unfold nums at e
  rw [List.getElem?_map] at e
  cases h : ns[i]? with
  | none => rw [h] at e; cases e
  | some k => rw [h] at e; exact ⟨k, (Option.some.inj e).symm, rfl⟩
theorem atI_int {α : Type} {xs : List α} {i : Int} {v : α} (h0 : 0 ≤ i) (h : xs[i.toNat]? = some v) : atI xs i = some v := by
  have e : i = ((i.toNat : Nat) : Int) := by omega
  rw [e]
  exact atI_nat h
theorem mv_at {tr : Tr} {i : Int} (h : 0 ≤ i ∧ i < tr.ms.length) : ∃ m, tr.ms[i.toNat]? = some m := ⟨_, List.getElem?_eq_getElem (by omega)⟩
theorem short {z : Str} (h : z.length ≤ 9) : z.length ≤ sizeLine := Nat.le_trans h (by decide)
def sp_path_lead (K : PySem.W.Frag) : Sp := fun vs H Q _ => ∃ (t p : Addr) (tr : Tr) (ns : List Int), vs = [.ref t, .ref p] ∧ TrAt K H t tr ∧ SqT K H p (nums ns) ∧ Within tr ns ∧ ns.length < sizeLine ∧ ∀ H', Same H H' → Q (.int (pathLead tr ns)) H'
theorem C_path_lead (c : Cn K mg) : Cal P w K mg base 1 "path_lead" (sp_path_lead K) [] := by
  refine mkCal (F_path_lead c) (g_path_lead c) sc_path_lead (fun _ _ _ _ _ _ us hl => match us, hl with | [_, _], _ => rfl) (fun vs H Q E h => ?_) (fun cdv A outer s H vs Q E hr h => ?_)
  · obtain ⟨t, p, tr, ns, rfl, _⟩ := h
    rfl
  · obtain ⟨t, p, tr, ns, rfl, ht, hp, hw, hl, q⟩ := h
    refine ⟨_, (pss_one (ps_ret (pe_callB (sumI K) (by rfl) (m_sum c) (by decide +kernel) (pa_cons (pe_lc (own := [("index", 2)]) rfl sc_path_lead.nd (piT K (pv 1)) (blkOk_by (own := [("index", 2)]) (N := N_path_lead) (sc := defScope s_path_lead) (by decide +kernel)) (fun _ _ _ _ _ => (pg_name (i := 2) sc_path_lead.nd rfl (.inl rfl))) (fun _ _ _ _ _ => pts_nil) (fun _ _ _ _ _ => (pe_op op_sub (pe_callB call_len_str (by rfl) (m_len c) (by decide +kernel) (pa_cons (pe_ix (ixT K) (pe_ix (ixT K) (pe_moves c (pv 0)) (pv 2) (fun _ _ => rfl)) pe_int (fun _ _ => rfl)) pa_nil)) pe_int))) pa_nil)))), ?_⟩
    refine ⟨_, rfl, p, rfl, ⟨_, hp⟩, fun D hD => lc_tup (K := K) (a := p) (xs := nums ns) (fun i H' => Same H H' ∧ H D = none ∧ H' D = some (.lst (nums ((ns.take i).map (leadAt tr)))))
      ⟨same_new hD, hD, upd_same⟩ (fun i H' _ h => sqT_same hp h.1) ?_ ?_⟩
    · rintro i x H1 hi ⟨s1, d1, d2⟩
      obtain ⟨k, rfl, hk⟩ := nums_get hi
      obtain ⟨m, hm⟩ := mv_at (hw k (List.mem_of_getElem? hk))
      have ht1 := ht.same s1
      refine ⟨rfl, ?_⟩
      show _
      refine ⟨_, rfl, t, tr, rfl, ht1, fun b bv h1 h2 => ?_⟩
      obtain ⟨a, ha, hr⟩ := h2.2 _ _ hm
      refine ⟨_, rfl, _, _, _, _, rfl, rfl, h1, atI_int (hw k (List.mem_of_getElem? hk)).1 ha, _, _, _, _, rfl, rfl, hr, rfl, _, rfl, short (ht.ok.mw m (List.mem_of_getElem? hm)), _, _, rfl, rfl, _, d2, ?_, Same.wr s1 d1, d1, ?_⟩
      · unfold nums
        rw [List.length_map, List.length_map, List.length_take]
        omega
      · rw [upd_same]
        have e : ns.take (i + 1) = ns.take i ++ [k] := by rw [List.take_add_one, hk]; rfl
        rw [e]
        unfold nums
        rw [List.map_append, List.map_append]
        have e2 : leadAt tr k = (m.w.length : Int) - 1 := by unfold leadAt; rw [hm]
        show _ = some (HO.lst (_ ++ [V.int (leadAt tr k)]))
        rw [e2]
    · rintro H1 ⟨s1, d1, d2⟩
      have e : (nums ns).length = ns.length := by unfold nums; rw [List.length_map]
      rw [e, List.take_length] at d2
      refine ⟨D, _, rfl, SqL.of d2, ?_⟩
      exact q H1 s1
end
end K86
end
section
set_option maxHeartbeats 4000000
namespace K86
open PySem PySem.Spec PyProof.Rows L2
/-! ### a call with keywords only -/
def g1 {α : Type} : List α → List α → List α
  | [], [a] => [a]
  | _, _ => []
def g2 {α : Type} : List α → List α → List α
  | [], [a, b] => [b, a]
  | _, _ => []
theorem g1_rel {vs : List V} {us : List Value} {zs : List V} {ws : List Value} (h : Vals vs us) (h' : Vals zs ws) : Vals (g1 vs zs) (g1 us ws) := by
  cases h with
  | cons a b => exact .nil
  | nil =>
    cases h' with
    | nil => exact .nil
    | cons a b =>
      cases b with
      | nil => exact .cons a .nil
      | cons c d => exact .nil
theorem g2_rel {vs : List V} {us : List Value} {zs : List V} {ws : List Value} (h : Vals vs us) (h' : Vals zs ws) : Vals (g2 vs zs) (g2 us ws) := by
  cases h with
  | cons a b => exact .nil
  | nil =>
    cases h' with
    | nil => exact .nil
    | cons a b =>
      cases b with
      | nil => exact .nil
      | cons c d =>
        cases d with
        | nil => exact .cons c (.cons a .nil)
        | cons e f => exact .nil
theorem g1_len {us ws : List Value} (h : (g1 us ws).length = 1) : ∃ a, us = [] ∧ ws = [a] := by
  match us, ws, h with
  | [], [a], _ => exact ⟨a, rfl, rfl⟩
theorem g2_len {us ws : List Value} (h : (g2 us ws).length = 2) : ∃ a b, us = [] ∧ ws = [a, b] := by
  match us, ws, h with
  | [], [a, b], _ => exact ⟨a, b, rfl, rfl⟩
/-- a def that may be called by its name with the keywords ks alone -/
structure KCal (P : Program) (w : World) (K : PySem.W.Frag) (mg : Str → Option Value) (base : Heap) (k : Nat) (x : Str) (sp : Sp) (ks : List Str) (gV : List V → List V → List V) : Prop where
  ex : ∃ (f : Addr) (fd : FuncData) (ps : List Str) (g : List Value → List Value → List Value), FnOk P w K mg base C8.CX0 k f fd ps sp ∧ mg x = some (.ref f) ∧ PySem.W.keepIn K (.ref f) = true ∧ KBinds K fd ps ks g gV
section
variable {K : PySem.W.Frag} {x qual : Str} {params : Arguments} {body : List Stmt} {scope : Scope} {f : Addr} {fd : FuncData} {ps ks : List Str} {g : List Value → List Value → List Value} {gV : List V → List V → List V}
theorem kbOf (F : FunD K x qual params body scope [] [] f fd) (h : ∀ (kV doc pm : Value) (an : Option Addr) (cdv ct : Value) (us ws : List Value), (g us ws).length = ps.length → bindArgs (PySem.W.fnOf x qual params body scope .none kV doc pm an cdv ct) ⟨us, ks.zip ws⟩ = pure (ps.zip (g us ws)))
    (rel : ∀ {vs : List V} {us : List Value} {zs : List V} {ws : List Value}, Vals vs us → Vals zs ws → Vals (gV vs zs) (g us ws)) : KBinds K fd ps ks g gV := by
  obtain ⟨oc, od, dV, kV, doc, pm, an, cdv, ct, osl, rfl, lk, hcd, hD, hK⟩ := F.ex
  rcases hD with ⟨_, rfl⟩ | ⟨e, _⟩
  · exact ⟨fun s us ws _ hl => .of_eq (h kV doc pm an cdv ct us ws hl), rel⟩
  · exact absurd rfl e
end
section
variable {X : Cx} {k j : Nat} {x : Str} {sp : Sp} {ks : List Str} {gV : List V → List V → List V} {p pos : Pos} {kws : List Keyword} {tk : TA}
theorem pe_ck0 (c : KCal X.prog X.w X.K X.mg X.base k x sp ks gV) (hr : Room j X.A) (hk : k ≤ j) (hg : Gl X x) (hkw : PK X kws tk) (hall : (backToKw pos (keywordEach kws X.env)).all (·.1.isSome) = true := by rfl) (hks : (backToKw pos (keywordEach kws X.env)).filterMap (·.1) = ks := by rfl)
    (hdb : (x == ("__debug__" : Str)) = false := by decide) (hpl : ((backTo pos (starEach [] X.env)).any (·.1) || (backToKw pos (keywordEach kws X.env)).any (·.1.isNone)) = false := by rfl) :
    PE X (.Call (.Name x p) [] kws pos) (tCallK sp gV C8.E0 tNil tk) := by
  obtain ⟨f, fd, ps, g, F, hm, kp, hb⟩ := c.ex
  refine ⟨fun pins s σ H Q I h => ?_⟩
  refine wpAny_Call_Name_kw (ld_glob I hg hm ?_ hdb)
  refine PySem.W.callWith_KW0 (h₀ := X.base) I.ok.mod.kin kp hall (thn (hkw.run pos pins s σ H _ I h) fun ws s2 ⟨zs, H2, I2, rz, q2⟩ => ⟨I2.kIn, ?_⟩) hpl
  rw [hks]
  exact run_fnk F (hr.mono hk) hb C8.pass0 I2 .nil rz q2
end
end K86
end
section
set_option maxHeartbeats 4000000
namespace K86
open PySem PySem.Spec PyProof.Rows L2
open C8 (Cal Met Mak pe_c pe_mk pe_mt pe_mt0)
section
variable {P : Program} {w : World} {K : PySem.W.Frag} {mg : Str → Option Value} {base : Heap}
theorem inV_nums {s : Int} : ∀ {us : List Int}, inV (.int s) (nums us) = decide (s ∈ us)
  | [] => by simp [inV, nums]
  | u :: us => by
    have ih := inV_nums (s := s) (us := us)
    unfold inV nums at ih ⊢
    rw [List.map_cons, List.any_cons, ih]
    have e : eqV (.int u) (.int s) = decide (s = u) := by
      show (u == s) = _
      by_cases h : u = s
      · subst h; simp
      · simp [h, Ne.symm h]
    rw [e]
    simp [List.mem_cons, Bool.decide_or]
theorem flat_nums {us : List Int} : (nums us).all flatV = true := by
  unfold nums
  rw [List.all_map]
  exact List.all_eq_true.mpr fun _ _ => rfl
def rInI (K : PySem.W.Frag) (neg : Bool) : R2 := fun x y H Q => ∃ (s : Int) (us : List Int) (p : Addr), x = .int s ∧ y = .ref p ∧ (SqL K H p (nums us) ∨ SqT K H p (nums us)) ∧ Q (.bl (if neg then !decide (s ∈ us) else decide (s ∈ us))) H
theorem inI {X : Cx} (K : PySem.W.Frag) (hK : X.K = K := by rfl) : OpR X (compareOp .In) (fun x y H Q => ∃ (s : Int) (us : List Int) (p : Addr), x = .int s ∧ y = .ref p ∧ (SqL K H p (nums us) ∨ SqT K H p (nums us)) ∧ Q (.bl (decide (s ∈ us))) H) := by
  intro pins st σ H x y v u Q I rx ry ⟨s, us, p, e1, e2, h, q⟩
  refine opIn K hK pins st σ H x y v u Q I rx ry ⟨p, nums us, e2, h, by rw [e1]; rfl, flat_nums, ?_⟩
  rw [e1, inV_nums]
  exact q
theorem notInI {X : Cx} (K : PySem.W.Frag) (hK : X.K = K := by rfl) : OpR X (compareOp .NotIn) (fun x y H Q => ∃ (s : Int) (us : List Int) (p : Addr), x = .int s ∧ y = .ref p ∧ (SqL K H p (nums us) ∨ SqT K H p (nums us)) ∧ Q (.bl (!decide (s ∈ us))) H) := by
  intro pins st σ H x y v u Q I rx ry ⟨s, us, p, e1, e2, h, q⟩
  refine opNotIn K hK pins st σ H x y v u Q I rx ry ⟨p, nums us, e2, h, by rw [e1]; rfl, flat_nums, ?_⟩
  rw [e1, inV_nums]
  exact q
theorem iteD {a p q : Prop} [Decidable a] (h1 : a → p) (h2 : ¬ a → q) : if decide a = true then p else q := by
  by_cases h : a
  · rw [if_pos (decide_eq_true h)]
    exact h1 h
  · rw [if_neg (by simpa using h)]
    exact h2 h
theorem iteND {a p q : Prop} [Decidable a] (h1 : ¬ a → p) (h2 : a → q) : if (!decide a) = true then p else q := by
  by_cases h : a
  · rw [if_neg (by simpa using h)]
    exact h2 h
  · rw [if_pos (by simpa using h)]
    exact h1 h
theorem Rw.nil {α : Type} {f : α → List V} {H : Hp} : Rw f K H [] [] := ⟨rfl, fun i x h => by simp at h⟩
theorem Rw.snoc {α : Type} {f : α → List V} {H : Hp} {vs : List V} {xs : List α} {a : Addr} {x : α} (h : Rw f K H vs xs) (e : SqT K H a (f x)) : Rw f K H (vs ++ [.ref a]) (xs ++ [x]) := by
  refine ⟨by simp [h.1], fun i y hy => ?_⟩
  by_cases lt : i < xs.length
  · rw [List.getElem?_append_left lt] at hy
    rw [List.getElem?_append_left (by rw [h.1]; exact lt)]
    exact h.2 i y hy
  · rw [List.getElem?_append_right (by omega)] at hy
    have e0 : i - xs.length = 0 := by
      have := (List.getElem?_eq_some_iff.mp hy).1
      simp at this
      omega
    rw [e0] at hy
    rw [List.getElem?_append_right (by rw [h.1]; omega), h.1, e0]
    cases hy
    exact ⟨a, rfl, e⟩
def N_lead_of : List Str := ["translator", "run"]
theorem sc_lead_of : FnScope N_lead_of ["translator", "run"] (defScope s_lead_of) := ⟨rfl, rfl, rfl, by decide +kernel, rfl, by decide +kernel, by decide +kernel⟩
def bgAt (tr : Tr) (i : Int) : Int := match tr.bs[i.toNat]? with
  | some b => (b.w.length : Int)
  | none => 0
def leadOf (tr : Tr) (b : Int) (ns : List Int) : Int := bgAt tr b + pathLead tr ns
/-- a run: its begin, its path -/
structure RunAt (K : PySem.W.Frag) (H : Hp) (r : Addr) (b : Int) (ns : List Int) : Prop where
  ex : ∃ p, SqT K H r [.int b, .ref p] ∧ SqT K H p (nums ns)
theorem RunAt.im {H H' : Hp} {r : Addr} {b : Int} {ns : List Int} (h : RunAt K H r b ns) (e : Im H H') : RunAt K H' r b ns := let ⟨p, h1, h2⟩ := h.ex; ⟨p, e.sq h1, e.sq h2⟩
def sp_lead_of (K : PySem.W.Frag) : Sp := fun vs H Q _ => ∃ (t r : Addr) (tr : Tr) (b : Int) (ns : List Int), vs = [.ref t, .ref r] ∧ TrAt K H t tr ∧ RunAt K H r b ns ∧ (0 ≤ b ∧ b < tr.bs.length) ∧ Within tr ns ∧ ns.length < sizeLine ∧ ∀ H', Same H H' → Q (.int (leadOf tr b ns)) H'
theorem FO_lead_of (c : Cn K mg) : ∃ fd, FunD K "lead_of" "lead_of" (defArgs s_lead_of) (defBody s_lead_of) (defScope s_lead_of) [] [] (He.ga K "lead_of") fd ∧ FnOk P w K mg base CX0 2 (He.ga K "lead_of") fd ["translator", "run"] (sp_lead_of K) := by
  obtain ⟨fd, F⟩ := F_lead_of c
  refine ⟨fd, F, mkFn F sc_lead_of (fun vs H Q E h => ?_) (fun cdv A outer s H vs Q E hr h => ?_)⟩
  · obtain ⟨t, p, tr, b, ns, rfl, _⟩ := h
    rfl
  · obtain ⟨t, r, tr, b, ns, rfl, ht, ⟨p, h1, h2⟩, hb, hw, hl, q⟩ := h
    refine ⟨_, (pss_one (ps_ret (pe_op op_add (pe_callB call_len_str (by rfl) (m_len c) (by decide +kernel) (pa_cons (pe_ix (ixT K) (pe_ix (ixT K) (pe_begins c (pv 0)) (pe_ix (ixT K) (pv 1) pe_int (fun _ _ => rfl)) (fun _ _ => rfl)) pe_int (fun _ _ => rfl)) pa_nil)) (pe_c (C_path_lead c) hr (by decide) rfl (pa_cons (pv 0) (pa_cons (pe_ix (ixT K) (pv 1) pe_int (fun _ _ => rfl)) pa_nil)))))), ?_⟩
    refine ⟨_, rfl, t, tr, rfl, ht, fun bb bv hbb hbv => ?_⟩
    have e : tr.bs[b.toNat]? = some tr.bs[b.toNat] := List.getElem?_eq_getElem (by omega)
    obtain ⟨a, ha, hrow⟩ := hbv.2 _ _ e
    refine ⟨_, rfl, _, _, _, _, rfl, rfl, h1, rfl, _, _, _, _, rfl, rfl, hbb, atI_int hb.1 ha, _, _, _, _, rfl, rfl, hrow, rfl, _, rfl, short (ht.ok.bw _ (List.mem_of_getElem? e)), ?_⟩
    refine ⟨_, rfl, _, rfl, _, _, _, _, rfl, rfl, h1, rfl, t, p, tr, ns, rfl, ht, h2, hw, hl, fun H' s => ?_⟩
    refine ⟨_, _, rfl, rfl, ?_⟩
    have e2 : leadOf tr b ns = (tr.bs[b.toNat].w.length : Int) + pathLead tr ns := by unfold leadOf bgAt; rw [e]
    show Q (.int ((tr.bs[b.toNat].w.length : Int) + pathLead tr ns)) H'
    rw [← e2]
    exact q H' s
theorem C_lead_of (c : Cn K mg) : Cal P w K mg base 2 "lead_of" (sp_lead_of K) [] := by
  obtain ⟨fd, F, O⟩ := FO_lead_of (P := P) (w := w) (base := base) c
  exact ⟨⟨_, fd, _, [], O, g_lead_of c, F.kp, F.bindsN (fun _ _ _ _ _ _ us hl => match us, hl with | [_, _], _ => rfl), .nil⟩⟩
theorem CK_lead_of (c : Cn K mg) : KCal P w K mg base 2 "lead_of" (sp_lead_of K) ["run", "translator"] g2 := by
  obtain ⟨fd, F, O⟩ := FO_lead_of (P := P) (w := w) (base := base) c
  exact ⟨⟨_, fd, _, g2, O, g_lead_of c, F.kp, kbOf F (fun _ _ _ _ _ _ us ws hl => by obtain ⟨a0, a1, rfl, rfl⟩ := g2_len hl; rfl) g2_rel⟩⟩
def N_useful_begins : List Str := ["translator", "states", "index", "begin"]
theorem sc_useful_begins : FnScope N_useful_begins ["translator"] (defScope s_useful_begins) := ⟨rfl, rfl, rfl, by decide +kernel, rfl, by decide +kernel, by decide +kernel⟩
def rowB (p : Bg × Nat) : List Int := [(p.2 : Int), p.1.s, (p.1.w.length : Int)]
def usefulB (tr : Tr) : List (List Int) := (tr.bs.zipIdx.filter fun p => decide (p.1.s ∈ tr.us)).map rowB
def sp_useful_begins (K : PySem.W.Frag) : Sp := fun vs H Q _ => ∃ (t : Addr) (tr : Tr), vs = [.ref t] ∧ TrAt K H t tr ∧ ∀ H' p ws, Same H H' → H p = none → H' p = some (.lst ws) → Rw nums K H' ws (usefulB tr) → Q (.ref p) H'
theorem C_useful_begins (c : Cn K mg) : Cal P w K mg base 1 "useful_begins" (sp_useful_begins K) [] := by
  refine mkCal (F_useful_begins c) (g_useful_begins c) sc_useful_begins (fun _ _ _ _ _ _ us hl => match us, hl with | [_], _ => rfl) (fun vs H Q E h => ?_) (fun cdv A outer s H vs Q E hr h => ?_)
  · obtain ⟨t, tr, rfl, _⟩ := h
    rfl
  · obtain ⟨t, tr, rfl, ht, q⟩ := h
    refine ⟨_, (pss_cons (ps_set (i := 1) sc_useful_begins.nd rfl (.inr rfl) (pe_useful c (pv 0)))
      (pss_one (ps_ret (pe_lc (own := [("index", 2), ("begin", 3)]) rfl sc_useful_begins.nd (EnumX.pi_enumT (by rfl) (m_enumerate c) (pa_cons (pe_begins c (pv 0)) pa_nil)) (blkOk_by (own := [("index", 2), ("begin", 3)]) (N := N_useful_begins) (sc := defScope s_useful_begins) (by decide +kernel)) (fun _ _ _ _ _ => (pgT K (n := 2) rfl (pgs_cons (pg_name (i := 2) sc_useful_begins.nd rfl (.inl rfl)) (pgs_cons (pg_name (i := 3) sc_useful_begins.nd rfl (.inl rfl)) pgs_nil)))) (fun _ _ _ _ _ => pts_one (pt_cmpR (inI K) (pe_ix (ixT K) (pv 3) pe_int (fun _ _ => rfl)) (pv 1) (by rfl))) (fun _ _ _ _ _ => (pe_tup (pa_cons (pv 2) (pa_cons (pe_ix (ixT K) (pv 3) pe_int (fun _ _ => rfl)) (pa_cons (pe_callB call_len_str (by rfl) (m_len c) (by decide +kernel) (pa_cons (pe_ix (ixT K) (pv 3) pe_int (fun _ _ => rfl)) pa_nil)) pa_nil))))))))), ?_⟩
    refine ⟨_, rfl, t, tr, rfl, ht, fun u hu => ?_⟩
    refine ⟨_, rfl, t, tr, rfl, ht, fun bb bv hbb hbv => ?_⟩
    refine ⟨bb, bv, rfl, hbb, fun D hD => EnumX.lc_enumT (K := K) (a := bb) (xs := bv) (fun i H' => Same H H' ∧ H D = none ∧ ∃ ws, H' D = some (.lst ws) ∧ Rw nums K H' ws (((tr.bs.zipIdx.take i).filter fun p => decide (p.1.s ∈ tr.us)).map rowB))
      ⟨same_new hD, hD, [], upd_same, Rw.nil⟩ (fun i H' _ h => sqT_same hbb h.1) ?_ ?_⟩
    · rintro i x T H1 hi ⟨s1, d1, ws, d2, hw⟩ hT
      obtain ⟨b, a, hb, rfl, hrow⟩ := hbv.get hi
      have hz : tr.bs.zipIdx[i]? = some (b, i) := by rw [List.getElem?_zipIdx, hb]; simp
      have s2 : Same H1 (upd H1 T (.tup [.int (i : Nat), .ref a])) := same_new hT
      have et : tr.bs.zipIdx.take (i + 1) = tr.bs.zipIdx.take i ++ [(b, i)] := by rw [List.take_add_one, hz]; rfl
      have hrow2 := sqT_same hrow (s1.trans s2)
      have nTD : D ≠ T := ne_of_none d2 hT
      refine ⟨T, _, rfl, SqT.of upd_same, rfl, _, _, rfl, _, _, rfl, rfl, rfl, ?_⟩
      refine ⟨_, rfl, _, _, _, _, rfl, rfl, hrow2, rfl, _, rfl, _, tr.us, u, rfl, rfl, .inr (sqT_same hu (s1.trans s2)), _, rfl, ?_⟩
      have d3 : upd H1 T (.tup [.int (i : Nat), .ref a]) D = some (.lst ws) := by rw [upd_ne nTD]; exact d2
      refine iteD (fun hm => ?_) (fun hm => ?_)
      · refine ⟨_, rfl, _, rfl, _, _, _, _, rfl, rfl, hrow2, rfl, _, rfl, _, _, _, _, rfl, rfl, hrow2, rfl, _, rfl, short (ht.ok.bw b (List.mem_of_getElem? hb)), (by show 3 ≤ sizeLine; decide), fun y hy => ?_⟩
        have nDy : D ≠ y := ne_of_none d3 hy
        have d4 : upd (upd H1 T (.tup [.int (i : Nat), .ref a])) y (.tup [.int (i : Nat), .int b.s, .int (b.w.length : Int)]) D = some (.lst ws) := by rw [upd_ne nDy]; exact d3
        have hl := hw.1
        rw [List.length_map] at hl
        have hl2 := List.length_filter_le (fun p : Bg × Nat => decide (p.1.s ∈ tr.us)) (tr.bs.zipIdx.take i)
        rw [List.length_take, List.length_zipIdx] at hl2
        have hb9 := ht.ok.ln.1
        refine ⟨ws, d4, Nat.lt_of_le_of_lt (by omega : ws.length ≤ 9) (by decide), Same.wr ((s1.trans s2).trans (same_new hy)) d1, d1, _, upd_same, ?_⟩
        rw [et, List.filter_append, List.map_append]
        have e2 : List.map rowB (List.filter (fun p : Bg × Nat => decide (p.1.s ∈ tr.us)) [(b, i)]) = [rowB (b, i)] := by rw [List.filter_cons_of_pos (by simpa using hm)]; rfl
        rw [e2]
        refine Rw.snoc ((((Im.same s2).trans (im_new hy)).trans (im_lst d4)).rw hw) ?_
        refine (im_lst d4).sq (SqT.of ?_)
        exact upd_same
      · refine ⟨s1.trans s2, d1, ws, d3, ?_⟩
        rw [et, List.filter_append, List.map_append]
        have e2 : List.map rowB (List.filter (fun p : Bg × Nat => decide (p.1.s ∈ tr.us)) [(b, i)]) = [] := by rw [List.filter_cons_of_neg (by simpa using hm)]; rfl
        rw [e2, List.append_nil]
        exact (Im.same s2).rw hw
    · rintro H1 ⟨s1, d1, ws, d2, hw⟩
      have e : tr.bs.zipIdx.take bv.length = tr.bs.zipIdx := by rw [List.take_of_length_le]; rw [List.length_zipIdx, hbv.1]; exact Nat.le_refl _
      rw [e] at hw
      exact q H1 D ws s1 d1 d2 hw
def N_useful_moves : List Str := ["translator", "states", "found", "index", "move", "state", "letter", "word", "target"]
theorem sc_useful_moves : FnScope N_useful_moves ["translator"] (defScope s_useful_moves) := ⟨rfl, rfl, rfl, by decide +kernel, rfl, by decide +kernel, by decide +kernel⟩
def rowM (p : Mv × Nat) : List Int := [(p.2 : Int), p.1.s, (p.1.w.length : Int) - 1, p.1.t]
def usefulM (tr : Tr) : List (List Int) := (tr.ms.zipIdx.filter fun p => decide (p.1.s ∈ tr.us ∧ p.1.t ∈ tr.us)).map rowM
def sp_useful_moves (K : PySem.W.Frag) : Sp := fun vs H Q _ => ∃ (t : Addr) (tr : Tr), vs = [.ref t] ∧ TrAt K H t tr ∧ ∀ H' p ws, Same H H' → H p = none → H' p = some (.lst ws) → Rw nums K H' ws (usefulM tr) → Q (.ref p) H'
theorem C_useful_moves (c : Cn K mg) : Cal P w K mg base 1 "useful_moves" (sp_useful_moves K) [] := by
  refine mkCal (F_useful_moves c) (g_useful_moves c) sc_useful_moves (fun _ _ _ _ _ _ us hl => match us, hl with | [_], _ => rfl) (fun vs H Q E h => ?_) (fun cdv A outer s H vs Q E hr h => ?_)
  · obtain ⟨t, tr, rfl, _⟩ := h
    rfl
  · obtain ⟨t, tr, rfl, ht, q⟩ := h
    refine ⟨_, (pss_cons (ps_set (i := 1) sc_useful_moves.nd rfl (.inl rfl) (pe_useful c (pv 0)))
      (pss_cons (ps_set (i := 2) sc_useful_moves.nd rfl (.inl rfl) (pe_lst pa_nil))
      (pss_cons (ps_for PassesOwn.never rfl (EnumX.pi_enumT (by rfl) (m_enumerate c) (pa_cons (pe_moves c (pv 0)) pa_nil)) (pgT K (n := 2) rfl (pgs_cons (pg_name (i := 3) sc_useful_moves.nd rfl (.inl rfl)) (pgs_cons (pg_name (i := 4) sc_useful_moves.nd rfl (.inl rfl)) pgs_nil)))
        (pss_cons (ps_asg (pv 4) (pgT K (n := 4) rfl (pgs_cons (pg_name (i := 5) sc_useful_moves.nd rfl (.inl rfl)) (pgs_cons (pg_name (i := 6) sc_useful_moves.nd rfl (.inl rfl)) (pgs_cons (pg_name (i := 7) sc_useful_moves.nd rfl (.inl rfl)) (pgs_cons (pg_name (i := 8) sc_useful_moves.nd rfl (.inl rfl)) pgs_nil))))))
        (pss_one (ps_if (PW.pt (pw_and (pt_cmpR (inI K) (pv 5) (pv 1) (by rfl)) (pw_and1 (pt_cmpR (inI K) (pv 8) (pv 1) (by rfl)))))
          (pss_one (ps_expr (pe_bm PySem.F.plainAttrs_list PySem.F.slot_list_append PySem.F.type_list_append mt_append (pv 2) (pa_cons (pe_tup (pa_cons (pv 3) (pa_cons (pv 5) (pa_cons (pe_op op_sub (pe_callB call_len_str (by rfl) (m_len c) (by decide +kernel) (pa_cons (pv 7) pa_nil)) pe_int) (pa_cons (pv 8) pa_nil))))) pa_nil))))
          pss_nil))))
      (pss_one (ps_ret (pv 2)))))), ?_⟩
    refine ⟨_, rfl, t, tr, rfl, ht, fun u hu => ?_⟩
    refine ⟨Nat.zero_le _, fun D hD => ?_⟩
    refine ⟨_, rfl, t, tr, rfl, ht.same (same_new hD), fun mm mv hmm hmv => ?_⟩
    refine ⟨mm, mv, rfl, hmm, EnumX.for_enumT (K := K) (a := mm) (xs := mv) (fun i σ H' => Same H H' ∧ H D = none ∧ (∃ w1 w2 w3 w4 w5 w6, σ = [some (.ref t), some (.ref u), some (.ref D), w1, w2, w3, w4, w5, w6]) ∧ Im (upd H D (.lst [])) H' ∧ ∃ ws, H' D = some (.lst ws) ∧ Rw nums K H' ws (((tr.ms.zipIdx.take i).filter fun p => decide (p.1.s ∈ tr.us ∧ p.1.t ∈ tr.us)).map rowM))
      ⟨same_new hD, hD, ⟨_, _, _, _, _, _, rfl⟩, Im.refl _, [], upd_same, Rw.nil⟩ (fun i σ H' h => h.2.2.2.1.sq hmm) ?_ ?_⟩
    · rintro i x T σ H1 hi ⟨s1, d1, ⟨w1, w2, w3, w4, w5, w6, rfl⟩, im, ws, d2, hw⟩ hT
      obtain ⟨m, a, hm, rfl, hrow⟩ := hmv.get hi
      have hz : tr.ms.zipIdx[i]? = some (m, i) := by rw [List.getElem?_zipIdx, hm]; simp
      have s2 : Same H1 (upd H1 T (.tup [.int (i : Nat), .ref a])) := same_new hT
      have et : tr.ms.zipIdx.take (i + 1) = tr.ms.zipIdx.take i ++ [(m, i)] := by rw [List.take_add_one, hz]; rfl
      have im2 := im.trans (Im.same s2)
      have hrow2 := im2.sq hrow
      have nTD : D ≠ T := ne_of_none d2 hT
      have d3 : upd H1 T (.tup [.int (i : Nat), .ref a]) D = some (.lst ws) := by rw [upd_ne nTD]; exact d2
      have hu2 : SqT K (upd H1 T (.tup [.int (i : Nat), .ref a])) u (nums tr.us) := (((im_new hD).trans im2)).sq hu
      have no : ∀ (h : ¬ (m.s ∈ tr.us ∧ m.t ∈ tr.us)), Rw nums K (upd H1 T (.tup [.int (i : Nat), .ref a])) ws (((tr.ms.zipIdx.take (i + 1)).filter fun p => decide (p.1.s ∈ tr.us ∧ p.1.t ∈ tr.us)).map rowM) := fun h => by
        rw [et, List.filter_append, List.map_append]
        have e2 : List.map rowM (List.filter (fun p : Mv × Nat => decide (p.1.s ∈ tr.us ∧ p.1.t ∈ tr.us)) [(m, i)]) = [] := by rw [List.filter_cons_of_neg (by simpa using h)]; rfl
        rw [e2, List.append_nil]
        exact (Im.same s2).rw hw
      refine ⟨T, _, rfl, SqT.of upd_same, rfl, _, _, rfl, _, _, rfl, rfl, ?_⟩
      refine ⟨_, rfl, a, _, rfl, hrow2, rfl, _, _, rfl, _, _, rfl, _, _, rfl, _, _, rfl, rfl, ?_⟩
      refine ⟨_, rfl, _, rfl, _, tr.us, u, rfl, rfl, .inr hu2, _, rfl, ?_⟩
      refine iteD (fun h1 => ?_) (fun h1 => ?_)
      · refine ⟨_, rfl, _, rfl, _, tr.us, u, rfl, rfl, .inr hu2, _, rfl, ?_⟩
        refine iteD (fun h2 => ?_) (fun h2 => ?_)
        · refine ⟨_, rfl, .inl ⟨rfl, _, SqL.of d3⟩, ?_⟩
          refine ⟨_, rfl, _, rfl, _, rfl, _, rfl, short (ht.ok.mw m (List.mem_of_getElem? hm)), _, _, rfl, rfl, _, rfl, (by show 4 ≤ sizeLine; decide), fun y hy => ?_⟩
          have nDy : D ≠ y := ne_of_none d3 hy
          have d4 : upd (upd H1 T (.tup [.int (i : Nat), .ref a])) y (.tup [.int (i : Nat), .int m.s, .int ((m.w.length : Int) - 1), .int m.t]) D = some (.lst ws) := by rw [upd_ne nDy]; exact d3
          have hl := hw.1
          rw [List.length_map] at hl
          have hl2 := List.length_filter_le (fun p : Mv × Nat => decide (p.1.s ∈ tr.us ∧ p.1.t ∈ tr.us)) (tr.ms.zipIdx.take i)
          rw [List.length_take, List.length_zipIdx] at hl2
          have hb9 := ht.ok.ln.2.1
          refine ⟨D, ws, _, rfl, rfl, d4, Nat.lt_of_le_of_lt (by omega : ws.length ≤ 9) (by decide), Same.wr ((s1.trans s2).trans (same_new hy)) d1, d1, ⟨_, _, _, _, _, _, rfl⟩, (im2.trans (im_new hy)).trans (im_lst d4), _, upd_same, ?_⟩
          rw [et, List.filter_append, List.map_append]
          have e2 : List.map rowM (List.filter (fun p : Mv × Nat => decide (p.1.s ∈ tr.us ∧ p.1.t ∈ tr.us)) [(m, i)]) = [rowM (m, i)] := by rw [List.filter_cons_of_pos (by simpa using ⟨h1, h2⟩)]; rfl
          rw [e2]
          refine Rw.snoc ((((Im.same s2).trans (im_new hy)).trans (im_lst d4)).rw hw) ?_
          refine (im_lst d4).sq (SqT.of ?_)
          exact upd_same
        · exact ⟨s1.trans s2, d1, ⟨_, _, _, _, _, _, rfl⟩, im2, ws, d3, no fun h => h2 h.2⟩
      · exact ⟨s1.trans s2, d1, ⟨_, _, _, _, _, _, rfl⟩, im2, ws, d3, no fun h => h1 h.1⟩
    · rintro σ H1 ⟨s1, d1, ⟨w1, w2, w3, w4, w5, w6, rfl⟩, im, ws, d2, hw⟩
      have e : tr.ms.zipIdx.take mv.length = tr.ms.zipIdx := by rw [List.take_of_length_le]; rw [List.length_zipIdx, hmv.1]; exact Nat.le_refl _
      rw [e] at hw
      exact ⟨_, rfl, q H1 D ws s1 d1 d2 hw⟩
end
end K86
end
section
set_option maxHeartbeats 4000000
namespace K86
open PySem PySem.Spec PyProof.Rows L2
open C8 (Cal Met Mak pe_c pe_mk pe_mt pe_mt0)
section
variable {P : Program} {w : World} {K : PySem.W.Frag} {mg : Str → Option Value} {base : Heap}
theorem lc_str {x : Str} {g : TG} {tt : TT} {te : TE} {vs : List Nat} {σ : L2.St} {H1 : Hp} {D : Addr} {Qd : Hp → Prop} (Pv : Nat → Hp → Prop) (h0 : Pv 0 (upd H1 D (.lst [])))
    (hs : ∀ i c H, x.cps[i]? = some c → Pv i H → g (.str ⟨#[c]⟩) (wipe σ vs) H fun σ2 H2 => wipe σ2 vs = wipe σ vs ∧ tt σ2 H2 fun b H3 =>
      if b = true then te σ2 H3 fun y H4 => ∃ acc, H4 D = some (.lst acc) ∧ acc.length < sizeLine ∧ Pv (i + 1) (upd H4 D (.lst (acc ++ [y]))) else Pv (i + 1) H3) (hd : ∀ H, Pv x.cps.size H → Qd H) :
    ∃ W : Nat → Nat → Hp → Prop, (∃ m, W 0 m (upd H1 D (.lst []))) ∧ ∀ i m H, W i m H →
      ((Its x).stop i H ∧ Qd H) ∨ ((Its x).go i H ∧ ∃ Nx : Hp → Prop, (∀ H', Nx H' → ∃ m', m' < m ∧ W (i + 1) m' H') ∧ ∀ v H', (Its x).yld i H v H' → g v (wipe σ vs) H' fun σ2 H2 => wipe σ2 vs = wipe σ vs ∧ tt σ2 H2 fun b H3 =>
        if b = true then te σ2 H3 fun y H4 => ∃ acc, H4 D = some (.lst acc) ∧ acc.length < sizeLine ∧ Nx (upd H4 D (.lst (acc ++ [y]))) else Nx H3) := by
  refine ⟨fun i m H => m = x.cps.size - i ∧ i ≤ x.cps.size ∧ Pv i H, ⟨x.cps.size, by simp, Nat.zero_le _, h0⟩, ?_⟩
  rintro i m H ⟨rfl, hi, p⟩
  by_cases lt : i < x.cps.size
  · refine .inr ⟨lt, Pv (i + 1), fun H' p' => ⟨x.cps.size - (i + 1), by omega, rfl, lt, p'⟩, fun v H' y => ?_⟩
    obtain ⟨rfl, c, hc, rfl⟩ := y
    exact hs i c _ hc p
  · obtain rfl : i = x.cps.size := by omega
    exact .inl ⟨Nat.le_refl _, hd H p⟩
theorem lc_zipT {K : PySem.W.Frag} {a b : Addr} {xs ys : List V} {g : TG} {tt : TT} {te : TE} {vs : List Nat} {σ : L2.St} {H1 : Hp} {D : Addr} {Qd : Hp → Prop} (n : Nat) (hn : n = min xs.length ys.length) (Pv : Nat → Hp → Prop) (h0 : Pv 0 (upd H1 D (.lst []))) (hl : ∀ i H, Pv i H → SqT K H a xs ∧ SqT K H b ys)
    (hs : ∀ i x y T H, xs[i]? = some x → ys[i]? = some y → Pv i H → H T = none → g (.ref T) (wipe σ vs) (upd H T (.tup [x, y])) fun σ2 H2 => wipe σ2 vs = wipe σ vs ∧ tt σ2 H2 fun b H3 =>
      if b = true then te σ2 H3 fun y H4 => ∃ acc, H4 D = some (.lst acc) ∧ acc.length < sizeLine ∧ Pv (i + 1) (upd H4 D (.lst (acc ++ [y]))) else Pv (i + 1) H3) (hd : ∀ H, Pv n H → Qd H) :
    ∃ W : Nat → Nat → Hp → Prop, (∃ m, W 0 m (upd H1 D (.lst []))) ∧ ∀ i m H, W i m H →
      ((RZ.ItzT K a b).stop i H ∧ Qd H) ∨ ((RZ.ItzT K a b).go i H ∧ ∃ Nx : Hp → Prop, (∀ H', Nx H' → ∃ m', m' < m ∧ W (i + 1) m' H') ∧ ∀ v H', (RZ.ItzT K a b).yld i H v H' → g v (wipe σ vs) H' fun σ2 H2 => wipe σ2 vs = wipe σ vs ∧ tt σ2 H2 fun b H3 =>
        if b = true then te σ2 H3 fun y H4 => ∃ acc, H4 D = some (.lst acc) ∧ acc.length < sizeLine ∧ Nx (upd H4 D (.lst (acc ++ [y]))) else Nx H3) := by
  refine ⟨fun i m H => m = n - i ∧ i ≤ n ∧ Pv i H, ⟨n, by simp, Nat.zero_le _, h0⟩, ?_⟩
  rintro i m H ⟨rfl, hi, p⟩
  obtain ⟨q1, q2⟩ := hl i H p
  by_cases lt : i < n
  · have l1 : i < xs.length := by omega
    have l2 : i < ys.length := by omega
    refine .inr ⟨⟨xs, ys, _, _, q1, q2, List.getElem?_eq_getElem l1, List.getElem?_eq_getElem l2⟩, Pv (i + 1), fun H' p' => ⟨n - (i + 1), by omega, rfl, lt, p'⟩, fun v H' z => ?_⟩
    obtain ⟨T, x, y, rfl, hT, rfl, f1, f2⟩ := z
    exact hs i x y T H (f1 xs q1) (f2 ys q2) p hT
  · obtain rfl : i = n := by omega
    exact .inl ⟨⟨xs, ys, q1, q2, by omega⟩, hd H p⟩
theorem tyT {H : Hp} {a : Addr} {xs : List V} (h : SqT K H a xs) : TyX K H (.ref a) (.type "tuple") := by
  rcases h with (h | ⟨o, h⟩) | ⟨o, its, n, h1, h2, _⟩
  · exact .base (.tup h)
  · exact .fTuple h
  · exact .kTuple h1 h2
theorem snoc_true {n : Nat} : List.replicate n (V.bl true) ++ [V.bl true] = List.replicate (n + 1) (V.bl true) := List.replicate_succ'.symm
theorem all_true {n : Nat} : (List.replicate n true).all id = true := by simp
theorem map_true {n : Nat} : (List.replicate n true).map V.bl = List.replicate n (V.bl true) := by simp
def WordOk (z : Str) : Prop := z.length ≤ 9 ∧ ∀ c ∈ z.cps.toList, c = 120 ∨ c = 121
theorem occ1 : (!(Builtin.Str.occurrences (Str.ofString "abcdefghijklmnopqrstuvwxyz") (Str.ofString "a") 0 (Str.ofString "abcdefghijklmnopqrstuvwxyz").length 1).isEmpty) = true := by decide +kernel
theorem occ2 : (!(Builtin.Str.occurrences (Str.ofString "abcdefghijklmnopqrstuvwxyz") (Str.ofString "b") 0 (Str.ofString "abcdefghijklmnopqrstuvwxyz").length 1).isEmpty) = true := by decide +kernel
theorem occ3 : (!(Builtin.Str.occurrences (Str.ofString "abcdefghijklmnopqrstuvwxyz") { cps := #[120] } 0 (Str.ofString "abcdefghijklmnopqrstuvwxyz").length 1).isEmpty) = true := by decide +kernel
theorem occ4 : (!(Builtin.Str.occurrences (Str.ofString "abcdefghijklmnopqrstuvwxyz") { cps := #[121] } 0 (Str.ofString "abcdefghijklmnopqrstuvwxyz").length 1).isEmpty) = true := by decide +kernel
theorem ifT {a p r : Prop} [Decidable a] (h : a) (q : p) : if decide a = true then p else r := by
  rw [if_pos (decide_eq_true h)]
  exact q
theorem ifF {a p r : Prop} [Decidable a] (h : ¬ a) (q : r) : if decide a = true then p else r := by
  rw [if_neg (by simpa using h)]
  exact q
theorem ifNT {a p r : Prop} [Decidable a] (h : a) (q : r) : if (!decide a) = true then p else r := by
  rw [if_neg (by simpa using h)]
  exact q
theorem Qt {Q : VK} {H : Hp} {a : Prop} [Decidable a] (h : a) (q : Q (.bl true) H) : Q (.bl (decide a)) H := by
  rw [decide_eq_true h]
  exact q
theorem Qb {Q : VK} {H : Hp} {b : Bool} (h : b = true) (q : Q (.bl true) H) : Q (.bl b) H := by
  rw [h]
  exact q
def N_is_letter : List Str := ["thing"]
theorem sc_is_letter : FnScope N_is_letter ["thing"] (defScope s_is_letter) := ⟨rfl, rfl, rfl, by decide +kernel, rfl, by decide +kernel, by decide +kernel⟩
def sp_is_letter (K : PySem.W.Frag) : Sp := fun vs H Q _ => ∃ z : Str, vs = [.str z] ∧ (z = "a" ∨ z = "b") ∧ Q (.bl true) H
theorem C_is_letter (c : Cn K mg) : Cal P w K mg base 1 "is_letter" (sp_is_letter K) [] := by
  refine mkCal (F_is_letter c) (g_is_letter c) sc_is_letter (fun _ _ _ _ _ _ us hl => match us, hl with | [_], _ => rfl) (fun vs H Q E h => ?_) (fun cdv A outer s H vs Q E hr h => ?_)
  · obtain ⟨z, rfl, _⟩ := h
    rfl
  · obtain ⟨z, rfl, hz, q⟩ := h
    refine ⟨_, (pss_one (ps_ret (pe_and (pe_callB (isi K) (by rfl) (m_isinstance c) (by decide +kernel) (pa_cons (pv 0) (pa_cons (pe_bltn (v := .ty "str") (by rfl) (m_str c) (by decide +kernel) rfl) pa_nil))) (pe_and (pe_cmpR op_eq (pe_callB call_len_str (by rfl) (m_len c) (by decide +kernel) (pa_cons (pv 0) pa_nil)) pe_int (nomark _)) (pe_one (pe_cmpR op_in_str (pv 0) (pe_gstr rfl (m_LETTERS c)) (by rfl))))))), ?_⟩
    refine ⟨_, rfl, _, _, _, _, true, rfl, .ty _, .base (.str _), kit_ty (by decide +kernel), _, rfl, ?_⟩
    rcases hz with rfl | rfl
    · refine ⟨_, rfl, _, rfl, by decide, rfl, _, rfl, ?_⟩
      refine ⟨_, rfl, _, _, rfl, rfl, ?_⟩
      exact Qb (Q := Q) occ1 q
    · refine ⟨_, rfl, _, rfl, by decide, rfl, _, rfl, ?_⟩
      refine ⟨_, rfl, _, _, rfl, rfl, ?_⟩
      exact Qb (Q := Q) occ2 q
def N_is_word : List Str := ["thing", "sign"]
theorem sc_is_word : FnScope N_is_word ["thing"] (defScope s_is_word) := ⟨rfl, rfl, rfl, by decide +kernel, rfl, by decide +kernel, by decide +kernel⟩
def sp_is_word (K : PySem.W.Frag) : Sp := fun vs H Q _ => ∃ z : Str, vs = [.str z] ∧ WordOk z ∧ ∀ H', Same H H' → Q (.bl true) H'
theorem C_is_word (c : Cn K mg) : Cal P w K mg base 1 "is_word" (sp_is_word K) [] := by
  refine mkCal (F_is_word c) (g_is_word c) sc_is_word (fun _ _ _ _ _ _ us hl => match us, hl with | [_], _ => rfl) (fun vs H Q E h => ?_) (fun cdv A outer s H vs Q E hr h => ?_)
  · obtain ⟨z, rfl, _⟩ := h
    rfl
  · obtain ⟨z, rfl, ⟨hz, hz2⟩, q⟩ := h
    refine ⟨_, (pss_one (ps_ret (pe_and (pe_callB (isi K) (by rfl) (m_isinstance c) (by decide +kernel) (pa_cons (pv 0) (pa_cons (pe_bltn (v := .ty "str") (by rfl) (m_str c) (by decide +kernel) rfl) pa_nil))) (pe_one (pe_callB (cr_all rfl) (by rfl) (m_all c) (by decide +kernel) (pa_cons (pe_lc (own := [("sign", 1)]) rfl sc_is_word.nd (pi_str (pv 0)) (blkOk_by (own := [("sign", 1)]) (N := N_is_word) (sc := defScope s_is_word) (by decide +kernel)) (fun _ _ _ _ _ => (pg_name (i := 1) sc_is_word.nd rfl (.inl rfl))) (fun _ _ _ _ _ => pts_nil) (fun _ _ _ _ _ => (pe_cmpR op_in_str (pv 1) (pe_gstr rfl (m_LETTERS c)) (by rfl)))) pa_nil)))))), ?_⟩
    refine ⟨_, rfl, _, _, _, _, true, rfl, .ty _, .base (.str _), kit_ty (by decide +kernel), _, rfl, ?_⟩
    refine ⟨_, rfl, z, rfl, fun D hD => lc_str (x := z) (fun i H' => Same H H' ∧ H D = none ∧ i ≤ z.cps.size ∧ H' D = some (.lst (List.replicate i (.bl true)))) ⟨same_new hD, hD, Nat.zero_le _, upd_same⟩ ?_ ?_⟩
    · rintro i x H1 hi ⟨s1, d1, hl, d2⟩
      refine ⟨rfl, ?_⟩
      have lt : i < z.cps.size := (Array.getElem?_eq_some_iff.mp hi).1
      have hx : x = 120 ∨ x = 121 := hz2 x (Array.mem_toList_iff.mpr (Array.mem_of_getElem? hi))
      refine ⟨_, rfl, _, _, rfl, rfl, _, d2, ?_, Same.wr s1 d1, d1, lt, ?_⟩
      · rw [List.length_replicate]
        have h9 : z.cps.size ≤ 9 := hz
        exact Nat.lt_of_le_of_lt (by omega : i ≤ 9) (by decide)
      · rw [upd_same]
        rcases hx with rfl | rfl
        · rw [occ3]
          exact congrArg (fun z => some (HO.lst z)) snoc_true
        · rw [occ4]
          exact congrArg (fun z => some (HO.lst z)) snoc_true
    · rintro H1 ⟨s1, d1, hl, d2⟩
      refine ⟨D, List.replicate z.cps.size true, rfl, ?_, ?_⟩
      · rw [map_true]
        exact SqL.of d2
      · rw [all_true]
        exact q H1 s1
def N_is_state : List Str := ["states", "thing"]
theorem sc_is_state : FnScope N_is_state ["states", "thing"] (defScope s_is_state) := ⟨rfl, rfl, rfl, by decide +kernel, rfl, by decide +kernel, by decide +kernel⟩
def N_is_index : List Str := ["many", "thing"]
theorem sc_is_index : FnScope N_is_index ["many", "thing"] (defScope s_is_index) := ⟨rfl, rfl, rfl, by decide +kernel, rfl, by decide +kernel, by decide +kernel⟩
def sp_is_state (K : PySem.W.Frag) : Sp := fun vs H Q _ => ∃ n i : Int, vs = [.int n, .int i] ∧ 0 ≤ i ∧ i < n ∧ Q (.bl true) H
abbrev sp_is_index (K : PySem.W.Frag) : Sp := sp_is_state K
theorem C_is_state (c : Cn K mg) : Cal P w K mg base 2 "is_state" (sp_is_state K) [] := by
  refine mkCal (F_is_state c) (g_is_state c) sc_is_state (fun _ _ _ _ _ _ us hl => match us, hl with | [_, _], _ => rfl) (fun vs H Q E h => ?_) (fun cdv A outer s H vs Q E hr h => ?_)
  · obtain ⟨n, i, rfl, _⟩ := h
    rfl
  · obtain ⟨n, i, rfl, h0, h1, q⟩ := h
    refine ⟨_, (pss_one (ps_ret (pe_and (pe_c (C_is_integer_words c) hr (by decide) rfl (pa_cons (pv 1) pa_nil)) (pe_one (pe_chain op_le op_lt pe_int (pv 1) (pv 0)))))), ?_⟩
    refine ⟨_, rfl, i, rfl, _, rfl, ?_⟩
    refine ⟨_, rfl, _, _, rfl, rfl, _, rfl, ?_⟩
    refine ifT h0 ?_
    exact ⟨_, rfl, _, _, rfl, rfl, Qt (Q := Q) h1 q⟩
theorem C_is_index (c : Cn K mg) : Cal P w K mg base 2 "is_index" (sp_is_index K) [] := by
  refine mkCal (F_is_index c) (g_is_index c) sc_is_index (fun _ _ _ _ _ _ us hl => match us, hl with | [_, _], _ => rfl) (fun vs H Q E h => ?_) (fun cdv A outer s H vs Q E hr h => ?_)
  · obtain ⟨n, i, rfl, _⟩ := h
    rfl
  · obtain ⟨n, i, rfl, h0, h1, q⟩ := h
    refine ⟨_, (pss_one (ps_ret (pe_and (pe_c (C_is_integer_words c) hr (by decide) rfl (pa_cons (pv 1) pa_nil)) (pe_one (pe_chain op_le op_lt pe_int (pv 1) (pv 0)))))), ?_⟩
    refine ⟨_, rfl, i, rfl, _, rfl, ?_⟩
    refine ⟨_, rfl, _, _, rfl, rfl, _, rfl, ?_⟩
    refine ifT h0 ?_
    exact ⟨_, rfl, _, _, rfl, rfl, Qt (Q := Q) h1 q⟩
def N_is_pair : List Str := ["states", "thing"]
theorem sc_is_pair : FnScope N_is_pair ["states", "thing"] (defScope s_is_pair) := ⟨rfl, rfl, rfl, by decide +kernel, rfl, by decide +kernel, by decide +kernel⟩
def N_is_move : List Str := ["states", "thing"]
theorem sc_is_move : FnScope N_is_move ["states", "thing"] (defScope s_is_move) := ⟨rfl, rfl, rfl, by decide +kernel, rfl, by decide +kernel, by decide +kernel⟩
def BgOk (n : Int) (b : Bg) : Prop := 0 ≤ b.s ∧ b.s < n ∧ WordOk b.w
def MvOk (n : Int) (m : Mv) : Prop := 0 ≤ m.s ∧ m.s < n ∧ 0 ≤ m.t ∧ m.t < n ∧ WordOk m.w ∧ (m.l = "a" ∨ m.l = "b")
def sp_is_pair (K : PySem.W.Frag) : Sp := fun vs H Q _ => ∃ (n : Int) (a : Addr) (b : Bg), vs = [.int n, .ref a] ∧ SqT K H a b.vs ∧ BgOk n b ∧ ∀ H', Same H H' → Q (.bl true) H'
def sp_is_move (K : PySem.W.Frag) : Sp := fun vs H Q _ => ∃ (n : Int) (a : Addr) (m : Mv), vs = [.int n, .ref a] ∧ SqT K H a m.vs ∧ MvOk n m ∧ ∀ H', Same H H' → Q (.bl true) H'
theorem C_is_pair (c : Cn K mg) : Cal P w K mg base 3 "is_pair" (sp_is_pair K) [] := by
  refine mkCal (F_is_pair c) (g_is_pair c) sc_is_pair (fun _ _ _ _ _ _ us hl => match us, hl with | [_, _], _ => rfl) (fun vs H Q E h => ?_) (fun cdv A outer s H vs Q E hr h => ?_)
  · obtain ⟨n, a, b, rfl, _⟩ := h
    rfl
  · obtain ⟨n, a, b, rfl, ha, ⟨h0, h1, h2⟩, q⟩ := h
    refine ⟨_, (pss_one (ps_ret (pe_and (pe_callB (isi K) (by rfl) (m_isinstance c) (by decide +kernel) (pa_cons (pv 1) (pa_cons (pe_bltn (v := .ty "tuple") (by rfl) (m_tuple c) (by decide +kernel) rfl) pa_nil))) (pe_and (pe_cmpR op_eq (pe_callB (lenS K) (by rfl) (m_len c) (by decide +kernel) (pa_cons (pv 1) pa_nil)) (pe_gint rfl (m_PAIR c)) (nomark _)) (pe_and (pe_c (C_is_state c) hr (by decide) rfl (pa_cons (pv 0) (pa_cons (pe_ix (ixT K) (pv 1) pe_int (fun _ _ => rfl)) pa_nil))) (pe_one (pe_c (C_is_word c) hr (by decide) rfl (pa_cons (pe_ix (ixT K) (pv 1) pe_int (fun _ _ => rfl)) pa_nil)))))))), ?_⟩
    refine ⟨_, rfl, _, _, _, _, true, rfl, .ty _, tyT ha, kit_ty (by decide +kernel), _, rfl, ?_⟩
    refine ⟨_, rfl, _, _, rfl, .inr ha, rfl, _, rfl, ?_⟩
    refine ⟨_, rfl, _, rfl, _, _, _, _, rfl, rfl, ha, rfl, n, b.s, rfl, h0, h1, _, rfl, ?_⟩
    refine ⟨_, rfl, _, _, _, _, rfl, rfl, ha, rfl, b.w, rfl, h2, fun H' s => ?_⟩
    exact q H' s
theorem C_is_move (c : Cn K mg) : Cal P w K mg base 3 "is_move" (sp_is_move K) [] := by
  refine mkCal (F_is_move c) (g_is_move c) sc_is_move (fun _ _ _ _ _ _ us hl => match us, hl with | [_, _], _ => rfl) (fun vs H Q E h => ?_) (fun cdv A outer s H vs Q E hr h => ?_)
  · obtain ⟨n, a, b, rfl, _⟩ := h
    rfl
  · obtain ⟨n, a, b, rfl, ha, ⟨h0, h1, h2, h3, h4, h5⟩, q⟩ := h
    refine ⟨_, (pss_cons (ps_if (PW.pt (pw_or (pt_not (pt_val (pe_callB (isi K) (by rfl) (m_isinstance c) (by decide +kernel) (pa_cons (pv 1) (pa_cons (pe_bltn (v := .ty "tuple") (by rfl) (m_tuple c) (by decide +kernel) rfl) pa_nil))))) (pw_or (pt_cmpR op_ne (pe_callB (lenS K) (by rfl) (m_len c) (by decide +kernel) (pa_cons (pv 1) pa_nil)) (pe_gint rfl (m_QUADRUPLE c)) (nomark _)) (pw_or1 (pt_not (pt_val (pe_c (C_is_letter c) hr (by decide) rfl (pa_cons (pe_ix (ixT K) (pv 1) pe_int (fun _ _ => rfl)) pa_nil))))))))
        (pss_one (ps_ret pe_bl))
        pss_nil)
      (pss_one (ps_ret (pe_and (pe_c (C_is_state c) hr (by decide) rfl (pa_cons (pv 0) (pa_cons (pe_ix (ixT K) (pv 1) pe_int (fun _ _ => rfl)) pa_nil))) (pe_and (pe_c (C_is_word c) hr (by decide) rfl (pa_cons (pe_ix (ixT K) (pv 1) pe_int (fun _ _ => rfl)) pa_nil)) (pe_one (pe_c (C_is_state c) hr (by decide) rfl (pa_cons (pv 0) (pa_cons (pe_ix (ixT K) (pv 1) pe_int (fun _ _ => rfl)) pa_nil))))))))), ?_⟩
    refine ⟨_, rfl, _, _, _, _, true, rfl, .ty _, tyT ha, kit_ty (by decide +kernel), _, rfl, ?_⟩
    refine ⟨_, rfl, _, _, rfl, .inr ha, rfl, _, rfl, ?_⟩
    refine ⟨_, rfl, _, _, _, _, rfl, rfl, ha, rfl, b.l, rfl, h5, _, rfl, ?_⟩
    refine ⟨_, rfl, _, rfl, _, _, _, _, rfl, rfl, ha, rfl, n, b.s, rfl, h0, h1, _, rfl, ?_⟩
    refine ⟨_, rfl, _, _, _, _, rfl, rfl, ha, rfl, b.w, rfl, h4, fun H' s => ?_⟩
    refine ⟨_, rfl, ?_⟩
    refine ⟨_, rfl, _, rfl, _, _, _, _, rfl, rfl, sqT_same ha s, rfl, n, b.t, rfl, h2, h3, ?_⟩
    exact q H' s
def N_ascends : List Str := ["items", "one", "other"]
theorem sc_ascends : FnScope N_ascends ["items"] (defScope s_ascends) := ⟨rfl, rfl, rfl, by decide +kernel, rfl, by decide +kernel, by decide +kernel⟩
def RowK (ks : List Key) : List V := ks.map kV
def Ris (xs : List (List Key)) : Prop := ∀ (i : Nat) (x y : List Key), xs[i]? = some x → xs[i + 1]? = some y → PySem.W.alike (SetX.tD x) (SetX.tD y) = true ∧ PySem.W.dataLt (SetX.tD x) (SetX.tD y) = true
theorem dpK {H : Hp} : ∀ (ks : List Key), DpAll K H (RowK ks) (ks.map SetX.kD)
  | [] => .nil
  | .inl i :: ks => .cons (.int i) (dpK ks)
  | .inr z :: ks => .cons (.str z) (dpK ks)
theorem dpT {H : Hp} {a : Addr} {ks : List Key} (h : SqT K H a (RowK ks)) : Dp K H (.ref a) (SetX.tD ks) := .tup h (dpK ks)
def sp_ascends (K : PySem.W.Frag) : Sp := fun vs H Q _ => ∃ (a : Addr) (av : List V) (xs : List (List Key)), vs = [.ref a] ∧ SqT K H a av ∧ Rw RowK K H av xs ∧ Ris xs ∧ av.length ≤ 9 ∧ ∀ H', Same H H' → Q (.bl true) H'
theorem C_ascends (c : Cn K mg) : Cal P w K mg base 1 "ascends" (sp_ascends K) [] := by
  refine mkCal (F_ascends c) (g_ascends c) sc_ascends (fun _ _ _ _ _ _ us hl => match us, hl with | [_], _ => rfl) (fun vs H Q E h => ?_) (fun cdv A outer s H vs Q E hr h => ?_)
  · obtain ⟨a, av, xs, rfl, _⟩ := h
    rfl
  · obtain ⟨a, av, xs, rfl, ha, hr', hx, hl, q⟩ := h
    have hu := hu_of hr
    refine ⟨_, (pss_one (ps_ret (pe_callB (cr_all rfl) (by rfl) (m_all c) (by decide +kernel) (pa_cons (pe_lc (own := [("one", 1), ("other", 2)]) rfl sc_ascends.nd (RZ.pi_zipA (by rfl) (m_zip c) (pa_cons (pv 0) (pa_cons (pe_slice (slA K) (pv 0) (po_some pe_int) po_none) pa_nil))) (blkOk_by (own := [("one", 1), ("other", 2)]) (N := N_ascends) (sc := defScope s_ascends) (by decide +kernel)) (fun _ _ _ _ _ => (pgT K (n := 2) rfl (pgs_cons (pg_name (i := 1) sc_ascends.nd rfl (.inl rfl)) (pgs_cons (pg_name (i := 2) sc_ascends.nd rfl (.inl rfl)) pgs_nil)))) (fun _ _ _ _ _ => pts_nil) (fun _ _ _ _ _ => (pe_cmpR (ltD K hr.units) (pv 1) (pv 2) (nomark _)))) pa_nil)))), ?_⟩
    have fin : ∀ (b : Addr) (H1 : Hp), Same H H1 → SqT K H1 b (av.drop 1) → ∀ D, H1 D = none → _ := fun b H1 s1 hb D hD => lc_zipT (K := K) (a := a) (b := b) (xs := av) (ys := av.drop 1) (σ := start N_ascends [.ref a]) (vs := [1, 2]) (g := gTup K 2 (gCons (gName 1) (gCons (gName 2) gNil))) (tt := tYes) (te := tOp (rLtD K) (tVar 1) (tVar 2)) (Qd := fun H' => rAll K [.ref D] H' Q) (D := D) (H1 := H1) (av.length - 1) (by rw [List.length_drop]; omega) (fun i H' => Same H1 H' ∧ H1 D = none ∧ H' D = some (.lst (List.replicate i (.bl true)))) ⟨same_new hD, hD, upd_same⟩ (fun i H' h => ⟨sqT_same ha (s1.trans h.1), sqT_same hb h.1⟩)
      (by
        rintro i x y T H2 hx1 hy1 ⟨s2, d1, d2⟩ hT
        rw [List.getElem?_drop] at hy1
        obtain ⟨k1, a1, e1, rfl, r1⟩ := hr'.get hx1
        obtain ⟨k2, a2, e2, rfl, r2⟩ := hr'.get hy1
        have e2' : xs[i + 1]? = some k2 := by rw [Nat.add_comm]; exact e2
        obtain ⟨al, lt⟩ := hx i k1 k2 e1 e2'
        have sT := ((s1.trans s2).trans (same_new (o := .tup [.ref a1, .ref a2]) hT))
        have nD : D ≠ T := ne_of_none d2 hT
        have il : i ≤ 9 := by
          have := (List.getElem?_eq_some_iff.mp hx1).1
          omega
        refine ⟨T, _, rfl, SqT.of upd_same, rfl, _, _, rfl, _, _, rfl, rfl, rfl, ?_⟩
        refine ⟨_, rfl, _, rfl, _, _, dpT (sqT_same r1 sT), dpT (sqT_same r2 sT), al, (fun z => by cases z), Nat.le_trans (SetX.depth_row k1) (by decide), ?_⟩
        refine ⟨_, (by rw [upd_ne nD]; exact d2), ?_, Same.wr (s2.trans (same_new hT)) d1, d1, ?_⟩
        · rw [List.length_replicate]
          exact Nat.lt_of_le_of_lt il (by decide)
        · rw [upd_same, lt]
          exact congrArg (fun z => some (HO.lst z)) snoc_true)
      (by
        rintro H2 ⟨s2, d1, d2⟩
        refine ⟨D, List.replicate (av.length - 1) true, rfl, ?_, ?_⟩
        · rw [map_true]
          exact SqL.of d2
        · rw [all_true]
          exact q H2 (s1.trans s2))
    refine ⟨_, rfl, _, rfl, 1, rfl, a, av, rfl, ha, fun hw => ?_, fun hw p hp => ?_⟩
    · have e0 : av = [] := by
        cases av with
        | nil => rfl
        | cons v r =>
          exfalso
          have := hw.1
          unfold HT.sIx at this
          simp at this
      refine ⟨a, a, av, av.drop 1, rfl, .inr ⟨ha, by rw [e0] at ha ⊢; exact ha, fun D hD => ?_⟩⟩
      exact fin a H (Same.refl H) (by rw [e0] at ha ⊢; exact ha) D hD
    · have ec : cutV av (some 1) none = av.drop 1 := by
        unfold cutV
        have e1 : HT.sIx av.length 0 (some 1) = min 1 av.length := HT.sIx_nat _ _ 1
        rw [e1]
        show List.take (av.length - min 1 av.length) (List.drop (min 1 av.length) av) = List.drop 1 av
        cases av with
        | nil => rfl
        | cons v r =>
          have e2 : min 1 (v :: r).length = 1 := by simp
          rw [e2]
          exact List.take_of_length_le (by simp)
      refine ⟨a, p, av, av.drop 1, rfl, .inr ⟨sqT_same ha (same_new hp), SqT.of (by rw [upd_same, ec]), fun D hD => ?_⟩⟩
      exact fin p _ (same_new hp) (SqT.of (by rw [upd_same, ec])) D hD
def kB (b : Bg) : List Key := [.inl b.s, .inr b.w]
def kM (m : Mv) : List Key := [.inl m.s, .inr m.l, .inr m.w, .inl m.t]
theorem Rw.map {α β : Type} {f : β → List V} {g : α → List V} {h : α → β} {H : Hp} {vs : List V} {xs : List α} (r : Rw g K H vs xs) (e : ∀ x, f (h x) = g x) : Rw f K H vs (xs.map h) := by
  refine ⟨by rw [List.length_map]; exact r.1, fun i y hy => ?_⟩
  rw [List.getElem?_map] at hy
  cases hx : xs[i]? with
  | none => rw [hx] at hy; cases hy
  | some x =>
    rw [hx] at hy
    cases hy
    obtain ⟨a, h1, h2⟩ := r.2 i x hx
    exact ⟨a, h1, by rw [e]; exact h2⟩
def N_are_pairs : List Str := ["states", "thing", "item"]
theorem sc_are_pairs : FnScope N_are_pairs ["states", "thing"] (defScope s_are_pairs) := ⟨rfl, rfl, rfl, by decide +kernel, rfl, by decide +kernel, by decide +kernel⟩
def N_are_moves : List Str := ["states", "thing", "item"]
theorem sc_are_moves : FnScope N_are_moves ["states", "thing"] (defScope s_are_moves) := ⟨rfl, rfl, rfl, by decide +kernel, rfl, by decide +kernel, by decide +kernel⟩
def sp_are_pairs (K : PySem.W.Frag) : Sp := fun vs H Q _ => ∃ (n : Int) (a : Addr) (av : List V) (bs : List Bg), vs = [.int n, .ref a] ∧ SqT K H a av ∧ Rw Bg.vs K H av bs ∧ (∀ b ∈ bs, BgOk n b) ∧ Ris (bs.map kB) ∧ av.length ≤ 9 ∧ ∀ H', Same H H' → Q (.bl true) H'
def sp_are_moves (K : PySem.W.Frag) : Sp := fun vs H Q _ => ∃ (n : Int) (a : Addr) (av : List V) (bs : List Mv), vs = [.int n, .ref a] ∧ SqT K H a av ∧ Rw Mv.vs K H av bs ∧ (∀ b ∈ bs, MvOk n b) ∧ Ris (bs.map kM) ∧ av.length ≤ 9 ∧ ∀ H', Same H H' → Q (.bl true) H'
theorem C_are_pairs (c : Cn K mg) : Cal P w K mg base 4 "are_pairs" (sp_are_pairs K) [] := by
  refine mkCal (F_are_pairs c) (g_are_pairs c) sc_are_pairs (fun _ _ _ _ _ _ us hl => match us, hl with | [_, _], _ => rfl) (fun vs H Q E h => ?_) (fun cdv A outer s H vs Q E hr h => ?_)
  · obtain ⟨n, a, av, bs, rfl, _⟩ := h
    rfl
  · obtain ⟨n, a, av, bs, rfl, ha, hb, ok, hx, hl, q⟩ := h
    refine ⟨_, (pss_one (ps_ret (pe_and (pe_callB (isi K) (by rfl) (m_isinstance c) (by decide +kernel) (pa_cons (pv 1) (pa_cons (pe_bltn (v := .ty "tuple") (by rfl) (m_tuple c) (by decide +kernel) rfl) pa_nil))) (pe_and (pe_callB (cr_all rfl) (by rfl) (m_all c) (by decide +kernel) (pa_cons (pe_lc (own := [("item", 2)]) rfl sc_are_pairs.nd (piT K (pv 1)) (blkOk_by (own := [("item", 2)]) (N := N_are_pairs) (sc := defScope s_are_pairs) (by decide +kernel)) (fun _ _ _ _ _ => (pg_name (i := 2) sc_are_pairs.nd rfl (.inl rfl))) (fun _ _ _ _ _ => pts_nil) (fun _ _ _ _ _ => (pe_c (C_is_pair c) hr (by decide) rfl (pa_cons (pv 0) (pa_cons (pv 2) pa_nil))))) pa_nil)) (pe_one (pe_c (C_ascends c) hr (by decide) rfl (pa_cons (pv 1) pa_nil))))))), ?_⟩
    refine ⟨_, rfl, _, _, _, _, true, rfl, .ty _, tyT ha, kit_ty (by decide +kernel), _, rfl, ?_⟩
    refine ⟨_, rfl, a, rfl, ⟨_, ha⟩, fun D hD => lc_tup (K := K) (a := a) (xs := av) (fun i H' => Same H H' ∧ H D = none ∧ H' D = some (.lst (List.replicate i (.bl true)))) ⟨same_new hD, hD, upd_same⟩ (fun i H' _ h => sqT_same ha h.1) ?_ ?_⟩
    · rintro i x H1 hi ⟨s1, d1, d2⟩
      obtain ⟨b, a1, e1, rfl, r1⟩ := hb.get hi
      have il : i ≤ 9 := by
        have := (List.getElem?_eq_some_iff.mp hi).1
        omega
      refine ⟨rfl, ?_⟩
      refine ⟨_, rfl, _, rfl, n, a1, b, rfl, sqT_same r1 s1, ok b (List.mem_of_getElem? e1), fun H2 s2 => ?_⟩
      refine ⟨_, s2 _ _ d2, ?_, Same.wr (s1.trans s2) d1, d1, ?_⟩
      · rw [List.length_replicate]
        exact Nat.lt_of_le_of_lt il (by decide)
      · rw [upd_same]
        exact congrArg (fun z => some (HO.lst z)) snoc_true
    · rintro H1 ⟨s1, d1, d2⟩
      refine ⟨D, List.replicate av.length true, rfl, ?_, ?_⟩
      · rw [map_true]
        exact SqL.of d2
      · rw [all_true]
        refine ⟨_, rfl, ?_⟩
        exact ⟨_, rfl, a, av, _, rfl, sqT_same ha s1, (Im.same s1).rw (hb.map (f := RowK) (h := kB) fun _ => rfl), hx, hl, fun H2 s2 => q H2 (s1.trans s2)⟩
theorem C_are_moves (c : Cn K mg) : Cal P w K mg base 4 "are_moves" (sp_are_moves K) [] := by
  refine mkCal (F_are_moves c) (g_are_moves c) sc_are_moves (fun _ _ _ _ _ _ us hl => match us, hl with | [_, _], _ => rfl) (fun vs H Q E h => ?_) (fun cdv A outer s H vs Q E hr h => ?_)
  · obtain ⟨n, a, av, bs, rfl, _⟩ := h
    rfl
  · obtain ⟨n, a, av, bs, rfl, ha, hb, ok, hx, hl, q⟩ := h
    refine ⟨_, (pss_one (ps_ret (pe_and (pe_callB (isi K) (by rfl) (m_isinstance c) (by decide +kernel) (pa_cons (pv 1) (pa_cons (pe_bltn (v := .ty "tuple") (by rfl) (m_tuple c) (by decide +kernel) rfl) pa_nil))) (pe_and (pe_callB (cr_all rfl) (by rfl) (m_all c) (by decide +kernel) (pa_cons (pe_lc (own := [("item", 2)]) rfl sc_are_moves.nd (piT K (pv 1)) (blkOk_by (own := [("item", 2)]) (N := N_are_moves) (sc := defScope s_are_moves) (by decide +kernel)) (fun _ _ _ _ _ => (pg_name (i := 2) sc_are_moves.nd rfl (.inl rfl))) (fun _ _ _ _ _ => pts_nil) (fun _ _ _ _ _ => (pe_c (C_is_move c) hr (by decide) rfl (pa_cons (pv 0) (pa_cons (pv 2) pa_nil))))) pa_nil)) (pe_one (pe_c (C_ascends c) hr (by decide) rfl (pa_cons (pv 1) pa_nil))))))), ?_⟩
    refine ⟨_, rfl, _, _, _, _, true, rfl, .ty _, tyT ha, kit_ty (by decide +kernel), _, rfl, ?_⟩
    refine ⟨_, rfl, a, rfl, ⟨_, ha⟩, fun D hD => lc_tup (K := K) (a := a) (xs := av) (fun i H' => Same H H' ∧ H D = none ∧ H' D = some (.lst (List.replicate i (.bl true)))) ⟨same_new hD, hD, upd_same⟩ (fun i H' _ h => sqT_same ha h.1) ?_ ?_⟩
    · rintro i x H1 hi ⟨s1, d1, d2⟩
      obtain ⟨b, a1, e1, rfl, r1⟩ := hb.get hi
      have il : i ≤ 9 := by
        have := (List.getElem?_eq_some_iff.mp hi).1
        omega
      refine ⟨rfl, ?_⟩
      refine ⟨_, rfl, _, rfl, n, a1, b, rfl, sqT_same r1 s1, ok b (List.mem_of_getElem? e1), fun H2 s2 => ?_⟩
      refine ⟨_, s2 _ _ d2, ?_, Same.wr (s1.trans s2) d1, d1, ?_⟩
      · rw [List.length_replicate]
        exact Nat.lt_of_le_of_lt il (by decide)
      · rw [upd_same]
        exact congrArg (fun z => some (HO.lst z)) snoc_true
    · rintro H1 ⟨s1, d1, d2⟩
      refine ⟨D, List.replicate av.length true, rfl, ?_, ?_⟩
      · rw [map_true]
        exact SqL.of d2
      · rw [all_true]
        refine ⟨_, rfl, ?_⟩
        exact ⟨_, rfl, a, av, _, rfl, sqT_same ha s1, (Im.same s1).rw (hb.map (f := RowK) (h := kM) fun _ => rfl), hx, hl, fun H2 s2 => q H2 (s1.trans s2)⟩
end
end K86
end
section
set_option maxHeartbeats 4000000
namespace K86
open PySem PySem.Spec PyProof.Rows L2
open C8 (Cal Met Mak pe_c pe_mk pe_mt pe_mt0)
section
variable {P : Program} {w : World} {K : PySem.W.Frag} {mg : Str → Option Value} {base : Heap}
theorem shaped_nums (ns : List Int) : SeqAt.shaped (.tuple (ns.map PyData.int)) = true := by
  have h1 : PyData.canLayAll0 (ns.map PyData.int) = true ∧ PyData.depthAll (ns.map PyData.int) = 0 := by
    induction ns with
    | nil => exact ⟨by simp [PyData.canLayAll0], by simp [PyData.depthAll]⟩
    | cons n ns ih => exact ⟨by simp [PyData.canLayAll0, PyData.canLay0, ih.1], by simp [PyData.depthAll, PyData.depth, ih.2]⟩
  unfold SeqAt.shaped
  simp [PyData.canLay0, PyData.depth, h1.1, h1.2]
theorem eqv_nil (ns : List Int) : PyData.eqv (.tuple (ns.map PyData.int)) (.tuple []) = decide (ns = []) := by
  cases ns with
  | nil => simp [PyData.eqv, PyData.eqvAll]
  | cons n ns => simp [PyData.eqv, PyData.eqvAll]
theorem dpN {H : Hp} {a : Addr} {ns : List Int} (h : SqT K H a (nums ns)) : Dp K H (.ref a) (.tuple (ns.map PyData.int)) := by
  have go : ∀ ns : List Int, DpAll K H (nums ns) (ns.map PyData.int) := fun ns => by
    induction ns with
    | nil => exact .nil
    | cons n ns ih => exact .cons (.int n) ih
  exact .tup h (go ns)
theorem eqE {X : Cx} (K : PySem.W.Frag) (hu : X.A.units + 64 < cLine) (hK : X.K = K := by rfl) : OpR X (compareOp .Eq) (fun x y H Q => ∃ (p q : Addr) (ns : List Int), x = .ref p ∧ y = .ref q ∧ SqT K H p (nums ns) ∧ SqT K H q [] ∧ Q (.bl (decide (ns = []))) H) := by
  intro pins s σ H x y v u Q I rx ry ⟨p, q, ns, e1, e2, h1, h2, q1⟩
  refine eqD K hu hK pins s σ H x y v u Q I rx ry ⟨_, _, e1 ▸ dpN h1, e2 ▸ .tup h2 .nil, shaped_nums ns, shaped_nums [], ?_⟩
  rw [List.map_nil, eqv_nil]
  exact q1
theorem neE {X : Cx} (K : PySem.W.Frag) (hu : X.A.units + 64 < cLine) (hK : X.K = K := by rfl) : OpR X (compareOp .NotEq) (fun x y H Q => ∃ (p q : Addr) (ns : List Int), x = .ref p ∧ y = .ref q ∧ SqT K H p (nums ns) ∧ SqT K H q [] ∧ Q (.bl (!decide (ns = []))) H) := by
  intro pins s σ H x y v u Q I rx ry ⟨p, q, ns, e1, e2, h1, h2, q1⟩
  refine neD K hu hK pins s σ H x y v u Q I rx ry ⟨_, _, e1 ▸ dpN h1, e2 ▸ .tup h2 .nil, shaped_nums ns, shaped_nums [], ?_⟩
  rw [List.map_nil, eqv_nil]
  exact q1
def rTupOf (K : PySem.W.Frag) : List V → Hp → VK → Prop := fun xs H Q => ∃ p ys, xs = [.ref p] ∧ ((SqL K H p ys ∧ ∀ l, H l = none → Q (.ref l) (upd H l (.tup ys))) ∨ SqT K H p ys ∧ Q (.ref p) H)
theorem tupOf {X : Cx} (K : PySem.W.Frag) (hK : X.K = K := by rfl) (hc : X.calm = true := by rfl) : CallR X (.type "tuple") (rTupOf K) := by
  subst hK
  exact call_tuple_of
/-! ### paths -/
def stepF (ms : List Mv) (o : Option Int) (i : Int) : Option Int := o.bind fun s => if 0 ≤ i ∧ i < ms.length then (ms[i.toNat]?).bind fun m => if m.s = s then some m.t else none else none
def wk (ms : List Mv) (s : Int) (is : List Int) : Option Int := is.foldl (stepF ms) (some s)
theorem wk_snoc {ms : List Mv} {s i : Int} {is : List Int} : wk ms s (is ++ [i]) = stepF ms (wk ms s is) i := by
  unfold wk
  rw [List.foldl_append]
  rfl
theorem wk_app {ms : List Mv} {s : Int} {is js : List Int} : wk ms s (is ++ js) = js.foldl (stepF ms) (wk ms s is) := by
  unfold wk
  rw [List.foldl_append]
theorem fold_none {ms : List Mv} : ∀ js : List Int, js.foldl (stepF ms) none = none
  | [] => rfl
  | _ :: js => fold_none js
theorem wk_pre {ms : List Mv} {s t : Int} {is : List Int} (n : Nat) (h : wk ms s is = some t) : ∃ u, wk ms s (is.take n) = some u := by
  rw [← List.take_append_drop n is, wk_app] at h
  cases e : wk ms s (is.take n) with
  | none =>
    rw [e, fold_none] at h
    cases h
  | some u => exact ⟨u, rfl⟩
theorem stepF_some {ms : List Mv} {o : Option Int} {i t : Int} (h : stepF ms o i = some t) : ∃ m, 0 ≤ i ∧ i < ms.length ∧ ms[i.toNat]? = some m ∧ o = some m.s ∧ m.t = t := by
  unfold stepF at h
  cases o with
  | none => cases h
  | some s =>
    simp only [Option.bind_some] at h
    by_cases hi : 0 ≤ i ∧ i < ms.length
    · rw [if_pos hi] at h
      obtain ⟨m, hm⟩ : ∃ m, ms[i.toNat]? = some m := ⟨_, List.getElem?_eq_getElem (by omega)⟩
      rw [hm] at h
      simp only [Option.bind_some] at h
      by_cases e : m.s = s
      · rw [if_pos e] at h
        exact ⟨m, hi.1, hi.2, hm, by rw [e], Option.some.inj h⟩
      · rw [if_neg e] at h
        cases h
    · rw [if_neg hi] at h
      cases h
/-- the step at place n of a walk -/
theorem wk_at {ms : List Mv} {s t i : Int} {is : List Int} {n : Nat} (h : wk ms s is = some t) (e : is[n]? = some i) : ∃ m, 0 ≤ i ∧ i < ms.length ∧ ms[i.toNat]? = some m ∧ wk ms s (is.take n) = some m.s ∧ wk ms s (is.take (n + 1)) = some m.t := by
  obtain ⟨u, hu⟩ := wk_pre (n + 1) h
  have et : is.take (n + 1) = is.take n ++ [i] := by rw [List.take_add_one, e]; rfl
  have hu' := hu
  rw [et, wk_snoc] at hu
  obtain ⟨m, h1, h2, h3, h4, h5⟩ := stepF_some hu
  exact ⟨m, h1, h2, h3, h4, by rw [hu', h5]⟩
theorem wk_within {tr : Tr} {s t : Int} {is : List Int} (h : wk tr.ms s is = some t) : Within tr is := fun i hi => by
  obtain ⟨n, e⟩ := List.mem_iff_getElem?.mp hi
  obtain ⟨m, h1, h2, _⟩ := wk_at h e
  exact ⟨h1, h2⟩
/-- a run of the machine: from its begin's state to t -/
def RunTo (tr : Tr) (b : Int) (ns : List Int) (t : Int) : Prop := 0 ≤ b ∧ b < tr.bs.length ∧ ∃ g, tr.bs[b.toNat]? = some g ∧ wk tr.ms g.s ns = some t
def N_last_of : List Str := ["translator", "run", "begin", "path"]
theorem sc_last_of : FnScope N_last_of ["translator", "run"] (defScope s_last_of) := ⟨rfl, rfl, rfl, by decide +kernel, rfl, by decide +kernel, by decide +kernel⟩
def sp_last_of (K : PySem.W.Frag) : Sp := fun vs H Q _ => ∃ (t r : Addr) (tr : Tr) (b : Int) (ns : List Int) (z : Int), vs = [.ref t, .ref r] ∧ TrAt K H t tr ∧ RunAt K H r b ns ∧ RunTo tr b ns z ∧ ∀ H', Same H H' → Q (.int z) H'
theorem C_last_of (c : Cn K mg) : Cal P w K mg base 1 "last_of" (sp_last_of K) [] := by
  refine mkCal (F_last_of c) (g_last_of c) sc_last_of (fun _ _ _ _ _ _ us hl => match us, hl with | [_, _], _ => rfl) (fun vs H Q E h => ?_) (fun cdv A outer s H vs Q E hr h => ?_)
  · obtain ⟨t, r, tr, b, ns, z, rfl, _⟩ := h
    rfl
  · obtain ⟨t, r, tr, b, ns, z, rfl, ht, ⟨p, h1, h2⟩, ⟨hb0, hb1, g, hg, hw⟩, q⟩ := h
    refine ⟨_, (pss_cons (ps_asg (pe_slice (slA K) (pv 1) po_none (po_some pe_int)) (pgT K (n := 2) rfl (pgs_cons (pg_name (i := 2) sc_last_of.nd rfl (.inl rfl)) (pgs_cons (pg_name (i := 3) sc_last_of.nd rfl (.inl rfl)) pgs_nil))))
      (pss_one (ps_ret (pe_ifExp (pt_cmpR (neE K hr.units) (pv 3) (pe_tup pa_nil) (nomark _)) (pe_ix (ixT K) (pe_ix (ixT K) (pe_moves c (pv 0)) (pe_ix (ixT K) (pv 3) (pe_un un_neg pe_int) (fun _ _ => rfl)) (fun _ _ => rfl)) pe_int (fun _ _ => rfl)) (pe_ix (ixT K) (pe_ix (ixT K) (pe_begins c (pv 0)) (pv 2) (fun _ _ => rfl)) pe_int (fun _ _ => rfl)))))), ?_⟩
    refine ⟨_, rfl, 2, rfl, r, _, rfl, h1, fun hw2 => ?_, fun hw2 => absurd ⟨rfl, rfl⟩ hw2⟩
    refine ⟨r, _, rfl, h1, rfl, _, _, rfl, _, _, rfl, rfl, ?_⟩
    refine ⟨_, rfl, Nat.zero_le _, fun e he => ?_⟩
    have s1 : Same H (upd H e (.tup [])) := same_new he
    have ht1 := ht.same s1
    refine ⟨p, e, ns, rfl, rfl, sqT_same h2 s1, SqT.of upd_same, _, rfl, ?_⟩
    refine iteND (fun hn => ?_) (fun hn => ?_)
    · obtain ⟨k, hk⟩ : ∃ k, ns[ns.length - 1]? = some k := ⟨_, List.getElem?_eq_getElem (by have := List.length_pos_iff.mpr hn; omega)⟩
      obtain ⟨m, m1, m2, m3, m4, m5⟩ := wk_at hw hk
      have el : ns.length - 1 + 1 = ns.length := by have := List.length_pos_iff.mpr hn; omega
      rw [el, List.take_length, hw] at m5
      refine ⟨_, rfl, t, tr, rfl, ht1, fun bb bv hbb hbv => ?_⟩
      obtain ⟨a, ha, hrow⟩ := hbv.2 _ _ m3
      have hk' : atI (nums ns) (-1) = some (.int k) := by
        have e1 : ns = ns.dropLast ++ [k] := by
          have := List.dropLast_concat_getLast hn
          rw [List.getLast_eq_getElem] at this
          have e3 : ns[ns.length - 1] = k := by
            have h := hk
            rw [List.getElem?_eq_getElem (by have := List.length_pos_iff.mpr hn; omega)] at h
            exact Option.some.inj h
          rw [e3] at this
          exact this.symm
        rw [e1]
        unfold nums
        rw [List.map_append]
        exact atI_last _ _
      refine ⟨_, rfl, 1, rfl, _, _, _, _, rfl, rfl, sqT_same h2 s1, hk', ?_⟩
      refine ⟨_, _, _, _, rfl, rfl, hbb, atI_int m1 ha, _, _, _, _, rfl, rfl, hrow, rfl, ?_⟩
      have e5 : m.t = z := (Option.some.inj m5).symm
      rw [e5]
      exact q _ s1
    · refine ⟨_, rfl, t, tr, rfl, ht1, fun bb bv hbb hbv => ?_⟩
      obtain ⟨a, ha, hrow⟩ := hbv.2 _ _ hg
      refine ⟨_, rfl, _, _, _, _, rfl, rfl, hbb, atI_int hb0 ha, _, _, _, _, rfl, rfl, hrow, rfl, ?_⟩
      rw [hn] at hw
      have e5 : g.s = z := Option.some.inj hw
      rw [e5]
      exact q _ s1
def N_is_partial : List Str := ["translator", "thing", "state", "index"]
theorem sc_is_partial : FnScope N_is_partial ["translator", "thing"] (defScope s_is_partial) := ⟨rfl, rfl, rfl, by decide +kernel, rfl, by decide +kernel, by decide +kernel⟩
def sp_is_partial (K : PySem.W.Frag) : Sp := fun vs H Q _ => ∃ (t r : Addr) (tr : Tr) (b : Int) (ns : List Int) (z : Int), vs = [.ref t, .ref r] ∧ TrAt K H t tr ∧ RunAt K H r b ns ∧ RunTo tr b ns z ∧ ∀ H', Same H H' → Q (.bl true) H'
theorem C_is_partial (c : Cn K mg) : Cal P w K mg base 3 "is_partial" (sp_is_partial K) [] := by
  refine mkCal (F_is_partial c) (g_is_partial c) sc_is_partial (fun _ _ _ _ _ _ us hl => match us, hl with | [_, _], _ => rfl) (fun vs H Q E h => ?_) (fun cdv A outer s H vs Q E hr h => ?_)
  · obtain ⟨t, r, tr, b, ns, z, rfl, _⟩ := h
    rfl
  · obtain ⟨t, r, tr, b, ns, z, rfl, ht, ⟨p, h1, h2⟩, ⟨hb0, hb1, g, hg, hw⟩, q⟩ := h
    refine ⟨_, (pss_cons (ps_if (PW.pt (pw_or (pt_not (pt_val (pe_callB (isi K) (by rfl) (m_isinstance c) (by decide +kernel) (pa_cons (pv 1) (pa_cons (pe_bltn (v := .ty "tuple") (by rfl) (m_tuple c) (by decide +kernel) rfl) pa_nil))))) (pw_or (pt_cmpR op_ne (pe_callB (lenS K) (by rfl) (m_len c) (by decide +kernel) (pa_cons (pv 1) pa_nil)) (pe_gint rfl (m_PARTIAL_PARTS c)) (nomark _)) (pw_or1 (pt_not (pt_val (pe_callB (isi K) (by rfl) (m_isinstance c) (by decide +kernel) (pa_cons (pe_ix (ixT K) (pv 1) pe_int (fun _ _ => rfl)) (pa_cons (pe_bltn (v := .ty "tuple") (by rfl) (m_tuple c) (by decide +kernel) rfl) pa_nil)))))))))
        (pss_one (ps_ret pe_bl))
        pss_nil)
      (pss_cons (ps_if (pt_not (pt_val (pe_c (C_is_index c) hr (by decide) rfl (pa_cons (pe_callB (lenS K) (by rfl) (m_len c) (by decide +kernel) (pa_cons (pe_begins c (pv 0)) pa_nil)) (pa_cons (pe_ix (ixT K) (pv 1) pe_int (fun _ _ => rfl)) pa_nil)))))
        (pss_one (ps_ret pe_bl))
        pss_nil)
      (pss_cons (ps_set (i := 2) sc_is_partial.nd rfl (.inl rfl) (pe_ix (ixT K) (pe_ix (ixT K) (pe_begins c (pv 0)) (pe_ix (ixT K) (pv 1) pe_int (fun _ _ => rfl)) (fun _ _ => rfl)) pe_int (fun _ _ => rfl)))
      (pss_cons (ps_for PassesOwn.never rfl (piT K (pe_ix (ixT K) (pv 1) pe_int (fun _ _ => rfl))) (pg_name (i := 3) sc_is_partial.nd rfl (.inl rfl))
        (pss_cons (ps_if (PW.pt (pw_or (pt_not (pt_val (pe_c (C_is_index c) hr (by decide) rfl (pa_cons (pe_callB (lenS K) (by rfl) (m_len c) (by decide +kernel) (pa_cons (pe_moves c (pv 0)) pa_nil)) (pa_cons (pv 3) pa_nil))))) (pw_or1 (pt_cmpR op_ne (pe_ix (ixT K) (pe_ix (ixT K) (pe_moves c (pv 0)) (pv 3) (fun _ _ => rfl)) pe_int (fun _ _ => rfl)) (pv 2) (nomark _)))))
          (pss_one (ps_ret pe_bl))
          pss_nil)
        (pss_one (ps_set (i := 2) sc_is_partial.nd rfl (.inl rfl) (pe_ix (ixT K) (pe_ix (ixT K) (pe_moves c (pv 0)) (pv 3) (fun _ _ => rfl)) pe_int (fun _ _ => rfl))))))
      (pss_one (ps_ret pe_bl)))))), ?_⟩
    refine ⟨_, rfl, _, _, _, _, true, rfl, .ty _, tyT h1, kit_ty (by decide +kernel), _, rfl, ?_⟩
    refine ⟨_, rfl, _, _, rfl, .inr h1, rfl, _, rfl, ?_⟩
    refine ⟨_, rfl, _, _, _, _, rfl, rfl, h1, rfl, _, _, _, _, true, rfl, .ty _, tyT h2, kit_ty (by decide +kernel), _, rfl, ?_⟩
    refine ⟨_, rfl, t, tr, rfl, ht, fun bb bv hbb hbv => ?_⟩
    obtain ⟨a, ha, hrow⟩ := hbv.2 _ _ hg
    refine ⟨bb, bv, rfl, .inr hbb, ?_⟩
    refine ⟨_, rfl, _, _, _, _, rfl, rfl, h1, rfl, _, b, rfl, hb0, (by rw [hbv.1]; exact hb1), _, rfl, ?_⟩
    refine ⟨_, rfl, t, tr, rfl, ht, fun bb bv hbb hbv => ?_⟩
    obtain ⟨a, ha, hrow⟩ := hbv.2 _ _ hg
    refine ⟨_, rfl, _, _, _, _, rfl, rfl, h1, rfl, _, _, _, _, rfl, rfl, hbb, atI_int hb0 ha, _, _, _, _, rfl, rfl, hrow, rfl, ?_⟩
    refine ⟨_, rfl, _, _, _, _, rfl, rfl, h1, rfl, p, rfl, ⟨_, h2⟩, for_tup (K := K) (a := p) (xs := nums ns) (fun i σ H' => H' = H ∧ ∃ (u : Int) (x : Option V), σ = [some (.ref t), some (.ref r), some (.int u), x] ∧ wk tr.ms g.s (ns.take i) = some u)
      ⟨rfl, g.s, none, rfl, rfl⟩ (fun i σ H' _ h => h.1 ▸ h2) ?_ ?_⟩
    · rintro i x σ H1 hi ⟨rfl, u, x0, rfl, hu⟩
      obtain ⟨k, rfl, hk⟩ := nums_get hi
      obtain ⟨m, m1, m2, m3, m4, m5⟩ := wk_at hw hk
      have eu : m.s = u := Option.some.inj (m4.symm.trans hu)
      refine ⟨_, rfl, t, tr, rfl, ht, fun mm mv hmm hmv => ?_⟩
      refine ⟨mm, mv, rfl, .inr hmm, ?_⟩
      refine ⟨_, rfl, _, k, rfl, m1, (by rw [hmv.1]; exact m2), _, rfl, ?_⟩
      refine ⟨_, rfl, t, tr, rfl, ht, fun mm mv hmm hmv => ?_⟩
      obtain ⟨a, ha, hrow⟩ := hmv.2 _ _ m3
      refine ⟨_, rfl, _, _, _, _, rfl, rfl, hmm, atI_int m1 ha, _, _, _, _, rfl, rfl, hrow, rfl, _, rfl, rfl, _, rfl, ?_⟩
      refine ifNT (by rw [eu]) ?_
      refine ⟨_, rfl, t, tr, rfl, ht, fun mm mv hmm hmv => ?_⟩
      obtain ⟨a, ha, hrow⟩ := hmv.2 _ _ m3
      refine ⟨_, rfl, _, _, _, _, rfl, rfl, hmm, atI_int m1 ha, _, _, _, _, rfl, rfl, hrow, rfl, ?_⟩
      exact ⟨rfl, m.t, _, rfl, m5⟩
    · rintro σ H1 ⟨rfl, u, x0, rfl, hu⟩
      exact q _ (Same.refl _)
def N_Translator_is_partial_run : List Str := ["self", "thing"]
theorem sc_Translator_is_partial_run : FnScope N_Translator_is_partial_run ["self", "thing"] (defScope s_Translator_is_partial_run) := ⟨rfl, rfl, rfl, by decide +kernel, rfl, by decide +kernel, by decide +kernel⟩
def N_Translator_last_state : List Str := ["self", "run"]
theorem sc_Translator_last_state : FnScope N_Translator_last_state ["self", "run"] (defScope s_Translator_last_state) := ⟨rfl, rfl, rfl, by decide +kernel, rfl, by decide +kernel, by decide +kernel⟩
abbrev sp_Translator_is_partial_run (K : PySem.W.Frag) : Sp := sp_is_partial K
abbrev sp_Translator_last_state (K : PySem.W.Frag) : Sp := sp_last_of K
theorem M_Translator_is_partial_run (c : Cn K mg) : Met P w K mg base 4 (He.ga K "Translator") "is_partial_run" (sp_Translator_is_partial_run K) [] := by
  refine mkMet (F_Translator_is_partial_run c) (cl_Translator c) (me_Translator_is_partial_run c) sc_Translator_is_partial_run (fun _ _ _ _ _ _ us hl => match us, hl with | [_, _], _ => rfl) (fun vs H Q E h => ?_) (fun cdv A outer s H vs Q E hr h => ?_)
  · obtain ⟨t, r, tr, b, ns, z, rfl, _⟩ := h
    rfl
  · obtain ⟨t, r, tr, b, ns, z, rfl, ht, h1, h2, q⟩ := h
    refine ⟨_, (pss_one (ps_ret (pe_c (C_is_partial c) hr (by decide) rfl (pa_cons (pv 0) (pa_cons (pv 1) pa_nil))))), ?_⟩
    exact ⟨_, rfl, _, rfl, t, r, tr, b, ns, z, rfl, ht, h1, h2, q⟩
theorem M_Translator_last_state (c : Cn K mg) : Met P w K mg base 2 (He.ga K "Translator") "last_state" (sp_Translator_last_state K) [] := by
  refine mkMet (F_Translator_last_state c) (cl_Translator c) (me_Translator_last_state c) sc_Translator_last_state (fun _ _ _ _ _ _ us hl => match us, hl with | [_, _], _ => rfl) (fun vs H Q E h => ?_) (fun cdv A outer s H vs Q E hr h => ?_)
  · obtain ⟨t, r, tr, b, ns, z, rfl, _⟩ := h
    rfl
  · obtain ⟨t, r, tr, b, ns, z, rfl, ht, h1, h2, q⟩ := h
    refine ⟨_, (pss_one (ps_ret (pe_c (C_last_of c) hr (by decide) rfl (pa_cons (pv 0) (pa_cons (pv 1) pa_nil))))), ?_⟩
    exact ⟨_, rfl, _, rfl, t, r, tr, b, ns, z, rfl, ht, h1, h2, q⟩
def N_is_useful_run : List Str := ["translator", "thing"]
theorem sc_is_useful_run : FnScope N_is_useful_run ["translator", "thing"] (defScope s_is_useful_run) := ⟨rfl, rfl, rfl, by decide +kernel, rfl, by decide +kernel, by decide +kernel⟩
def sp_is_useful_run (K : PySem.W.Frag) : Sp := fun vs H Q _ => ∃ (t r : Addr) (tr : Tr) (b : Int) (ns : List Int) (z : Int), vs = [.ref t, .ref r] ∧ TrAt K H t tr ∧ RunAt K H r b ns ∧ RunTo tr b ns z ∧ z ∈ tr.us ∧ ∀ H', Same H H' → Q (.bl true) H'
theorem TrAt.ins {H : Hp} {t : Addr} {tr : Tr} (h : TrAt K H t tr) : ∃ dx fs, H t = some (.ins (aTr K) dx fs) ∧ fs.lookup ("is_partial_run" : Str) = none ∧ fs.lookup ("last_state" : Str) = none := by
  obtain ⟨⟨dx, b, m, e', u, L, bv, mv, ev, h1, _⟩, _⟩ := h
  exact ⟨dx, _, h1, trF_no1, trF_no2⟩
theorem C_is_useful_run (c : Cn K mg) : Cal P w K mg base 5 "is_useful_run" (sp_is_useful_run K) [] := by
  refine mkCal (F_is_useful_run c) (g_is_useful_run c) sc_is_useful_run (fun _ _ _ _ _ _ us hl => match us, hl with | [_, _], _ => rfl) (fun vs H Q E h => ?_) (fun cdv A outer s H vs Q E hr h => ?_)
  · obtain ⟨t, r, tr, b, ns, z, rfl, _⟩ := h
    rfl
  · obtain ⟨t, r, tr, b, ns, z, rfl, ht, h1, h2, hz, q⟩ := h
    refine ⟨_, (pss_one (ps_ret (pe_and (pe_mt (M_Translator_is_partial_run c) hr (by decide) (pv 0) (pa_cons (pv 1) pa_nil)) (pe_one (pe_cmpR (inI K) (pe_mt (M_Translator_last_state c) hr (by decide) (pv 0) (pa_cons (pv 1) pa_nil)) (pe_useful c (pv 0)) (by rfl)))))), ?_⟩
    obtain ⟨dx, fs, e1, e2, e3⟩ := ht.ins
    refine ⟨_, rfl, t, dx, fs, rfl, e1, e2, _, rfl, t, r, tr, b, ns, z, rfl, ht, h1, h2, fun H1 s1 => ⟨_, rfl, ?_⟩⟩
    have ht1 := ht.same s1
    refine ⟨_, rfl, t, dx, fs, rfl, s1 _ _ e1, e3, _, rfl, t, r, tr, b, ns, z, rfl, ht1, h1.im (Im.same s1), h2, fun H2 s2 => ?_⟩
    refine ⟨_, rfl, t, tr, rfl, ht1.same s2, fun u hu => ?_⟩
    refine ⟨z, tr.us, u, rfl, rfl, .inr hu, ?_⟩
    exact Qt (Q := Q) hz (q _ (s1.trans s2))
def N_is_loop : List Str := ["translator", "state", "thing", "here", "index"]
theorem sc_is_loop : FnScope N_is_loop ["translator", "state", "thing"] (defScope s_is_loop) := ⟨rfl, rfl, rfl, by decide +kernel, rfl, by decide +kernel, by decide +kernel⟩
def sp_is_loop (K : PySem.W.Frag) : Sp := fun vs H Q _ => ∃ (t p : Addr) (tr : Tr) (s : Int) (ns : List Int), vs = [.ref t, .int s, .ref p] ∧ TrAt K H t tr ∧ SqT K H p (nums ns) ∧ ns ≠ [] ∧ wk tr.ms s ns = some s ∧ ∀ H', Same H H' → Q (.bl true) H'
theorem C_is_loop (c : Cn K mg) : Cal P w K mg base 2 "is_loop" (sp_is_loop K) [] := by
  refine mkCal (F_is_loop c) (g_is_loop c) sc_is_loop (fun _ _ _ _ _ _ us hl => match us, hl with | [_, _, _], _ => rfl) (fun vs H Q E h => ?_) (fun cdv A outer s H vs Q E hr h => ?_)
  · obtain ⟨t, p, tr, s, ns, rfl, _⟩ := h
    rfl
  · obtain ⟨t, p, tr, z, ns, rfl, ht, hp, hn, hw, q⟩ := h
    refine ⟨_, (pss_cons (ps_if (PW.pt (pw_or (pt_not (pt_val (pe_callB (isi K) (by rfl) (m_isinstance c) (by decide +kernel) (pa_cons (pv 2) (pa_cons (pe_bltn (v := .ty "tuple") (by rfl) (m_tuple c) (by decide +kernel) rfl) pa_nil))))) (pw_or1 (pt_cmpR (eqE K hr.units) (pv 2) (pe_tup pa_nil) (nomark _)))))
        (pss_one (ps_ret pe_bl))
        pss_nil)
      (pss_cons (ps_set (i := 3) sc_is_loop.nd rfl (.inl rfl) (pv 1))
      (pss_cons (ps_for PassesOwn.never rfl (piT K (pv 2)) (pg_name (i := 4) sc_is_loop.nd rfl (.inl rfl))
        (pss_cons (ps_if (PW.pt (pw_or (pt_not (pt_val (pe_c (C_is_integer_paces c) hr (by decide) rfl (pa_cons (pv 4) pa_nil)))) (pw_or (pt_not (pt_chain op_le op_lt pe_int (pv 4) (pe_callB (lenS K) (by rfl) (m_len c) (by decide +kernel) (pa_cons (pe_moves c (pv 0)) pa_nil)))) (pw_or1 (pt_cmpR op_ne (pe_ix (ixT K) (pe_ix (ixT K) (pe_moves c (pv 0)) (pv 4) (fun _ _ => rfl)) pe_int (fun _ _ => rfl)) (pv 3) (nomark _))))))
          (pss_one (ps_ret pe_bl))
          pss_nil)
        (pss_one (ps_set (i := 3) sc_is_loop.nd rfl (.inl rfl) (pe_ix (ixT K) (pe_ix (ixT K) (pe_moves c (pv 0)) (pv 4) (fun _ _ => rfl)) pe_int (fun _ _ => rfl))))))
      (pss_one (ps_ret (pe_cmpR op_eq (pv 3) (pv 1) (nomark _))))))), ?_⟩
    refine ⟨_, rfl, _, _, _, _, true, rfl, .ty _, tyT hp, kit_ty (by decide +kernel), _, rfl, ?_⟩
    refine ⟨_, rfl, Nat.zero_le _, fun e he => ?_⟩
    have s1 : Same H (upd H e (.tup [])) := same_new he
    have ht1 := ht.same s1
    refine ⟨p, e, ns, rfl, rfl, sqT_same hp s1, SqT.of upd_same, _, rfl, ?_⟩
    refine ifF hn ?_
    refine ⟨_, rfl, ?_⟩
    refine ⟨_, rfl, p, rfl, ⟨_, sqT_same hp s1⟩, for_tup (K := K) (a := p) (xs := nums ns) (fun i σ H' => H' = upd H e (.tup []) ∧ ∃ (u : Int) (x : Option V), σ = [some (.ref t), some (.int z), some (.ref p), some (.int u), x] ∧ wk tr.ms z (ns.take i) = some u)
      ⟨rfl, z, none, rfl, rfl⟩ (fun i σ H' _ h => h.1 ▸ sqT_same hp s1) ?_ ?_⟩
    · rintro i x σ H1 hi ⟨rfl, u, x0, rfl, hu⟩
      obtain ⟨k, rfl, hk⟩ := nums_get hi
      obtain ⟨m, m1, m2, m3, m4, m5⟩ := wk_at hw hk
      have eu : m.s = u := Option.some.inj (m4.symm.trans hu)
      refine ⟨_, rfl, k, rfl, _, rfl, ?_⟩
      refine ⟨_, rfl, _, _, rfl, rfl, _, rfl, ?_⟩
      refine ifT m1 ?_
      refine ⟨_, rfl, t, tr, rfl, ht1, fun mm mv hmm hmv => ?_⟩
      obtain ⟨a, ha, hrow⟩ := hmv.2 _ _ m3
      refine ⟨mm, mv, rfl, .inr hmm, ?_⟩
      refine ⟨_, _, rfl, rfl, _, rfl, ?_⟩
      refine ifNT (a := k < (mv.length : Int)) (by rw [hmv.1]; exact m2) ?_
      refine ⟨_, rfl, t, tr, rfl, ht1, fun mm mv hmm hmv => ?_⟩
      obtain ⟨a, ha, hrow⟩ := hmv.2 _ _ m3
      refine ⟨_, rfl, _, _, _, _, rfl, rfl, hmm, atI_int m1 ha, _, _, _, _, rfl, rfl, hrow, rfl, _, rfl, rfl, _, rfl, ?_⟩
      refine ifNT (by rw [eu]) ?_
      refine ⟨_, rfl, t, tr, rfl, ht1, fun mm mv hmm hmv => ?_⟩
      obtain ⟨a, ha, hrow⟩ := hmv.2 _ _ m3
      refine ⟨_, rfl, _, _, _, _, rfl, rfl, hmm, atI_int m1 ha, _, _, _, _, rfl, rfl, hrow, rfl, ?_⟩
      exact ⟨rfl, m.t, _, rfl, m5⟩
    · rintro σ H1 ⟨rfl, u, x0, rfl, hu⟩
      rw [List.take_of_length_le (by unfold nums; rw [List.length_map]; exact Nat.le_refl _), hw] at hu
      have e5 : z = u := Option.some.inj hu
      refine ⟨_, rfl, _, rfl, rfl, ?_⟩
      exact Qt (Q := Q) (by rw [e5]) (q _ s1)
end
end K86
end
section
set_option maxHeartbeats 4000000
namespace K86
open PySem PySem.Spec PyProof.Rows L2
open C8 (Cal Met Mak pe_c pe_mk pe_mt pe_mt0)
section
variable {P : Program} {w : World} {K : PySem.W.Frag} {mg : Str → Option Value} {base : Heap}
/-! ### the states along a path -/
def tgt (ms : List Mv) (i : Int) : Int := match ms[i.toNat]? with
  | some m => m.t
  | none => 0
def trail (ms : List Mv) (s : Int) (ns : List Int) : List Int := s :: ns.map (tgt ms)
theorem trail_snoc {ms : List Mv} {s i : Int} {ns : List Int} : trail ms s (ns ++ [i]) = trail ms s ns ++ [tgt ms i] := by
  unfold trail
  rw [List.map_append]
  rfl
theorem trail_take {ms : List Mv} {s : Int} {ns : List Int} (n : Nat) : trail ms s (ns.take n) = (trail ms s ns).take (n + 1) := by
  unfold trail
  rw [List.take_succ_cons, List.map_take]
theorem trail_at {ms : List Mv} {s t : Int} {ns : List Int} (h : wk ms s ns = some t) {n : Nat} (hn : n ≤ ns.length) : ∃ u, (trail ms s ns)[n]? = some u ∧ wk ms s (ns.take n) = some u := by
  cases n with
  | zero => exact ⟨s, rfl, rfl⟩
  | succ n =>
    have e : ns[n]? = some ns[n] := List.getElem?_eq_getElem (by omega)
    obtain ⟨m, h1, h2, h3, h4, h5⟩ := wk_at h e
    refine ⟨m.t, ?_, h5⟩
    unfold trail
    rw [List.getElem?_cons_succ, List.getElem?_map, e]
    show some (tgt ms ns[n]) = some m.t
    unfold tgt
    rw [h3]
theorem trail_len {ms : List Mv} {s : Int} {ns : List Int} : (trail ms s ns).length = ns.length + 1 := by
  unfold trail
  rw [List.length_cons, List.length_map]
def seg (ns : List Int) (k j : Nat) : List Int := (ns.take j).drop k
/-- each repeated state lies before a segment that leads on by sg -/
def PosRep (tr : Tr) (sg : Int) (s : Int) (ns : List Int) : Prop := ∀ k j, k < j → j ≤ ns.length → (trail tr.ms s ns)[k]? = (trail tr.ms s ns)[j]? → 0 < sg * pathLead tr (seg ns k j)
def N_loop_in : List Str := ["translator", "run", "sign", "states", "moves", "index", "begin", "path", "target", "at", "loop"]
theorem sc_loop_in : FnScope N_loop_in ["translator", "run", "sign"] (defScope s_loop_in) := ⟨rfl, rfl, rfl, by decide +kernel, rfl, by decide +kernel, by decide +kernel⟩
def sp_loop_in (K : PySem.W.Frag) : Sp := fun vs H Q _ => ∃ (t r : Addr) (tr : Tr) (sg b : Int) (ns : List Int) (z : Int) (g : Bg), vs = [.ref t, .ref r, .int sg] ∧ TrAt K H t tr ∧ RunAt K H r b ns ∧ 0 ≤ b ∧ tr.bs[b.toNat]? = some g ∧ wk tr.ms g.s ns = some z ∧ (sg = 1 ∨ sg = -1) ∧ PosRep tr sg g.s ns ∧ ns.length ≤ 100000 ∧
  ((trail tr.ms g.s ns).Nodup → ∀ H', Same H H' → Q .non H') ∧
  (∀ k j, k < j → j ≤ ns.length → (trail tr.ms g.s ns)[k]? = (trail tr.ms g.s ns)[j]? → ∀ H' a r' p, Same H H' → SqT K H' a [.ref r', .ref p] → RunAt K H' r' b (ns.take k) → SqT K H' p (nums (seg ns k j)) → Q (.ref a) H')
theorem big {n : Nat} (h : n ≤ 200000) : n < sizeLine := Nat.lt_of_le_of_lt h (by decide)
theorem big' {n : Nat} (h : n ≤ 200000) : n ≤ sizeLine := Nat.le_of_lt (big h)
theorem cut_from {xs : List V} {k : Nat} (h : k ≤ xs.length) : cutV xs (some (k : Int)) none = xs.drop k := by
  unfold cutV
  rw [HT.sIx_nat]
  have e : min k xs.length = k := by omega
  rw [e]
  exact List.take_of_length_le (by rw [List.length_drop]; exact Nat.le_refl _)
theorem cut_to {xs : List V} {k : Nat} : cutV xs none (some (k : Int)) = xs.take k := by
  unfold cutV
  rw [HT.sIx_nat]
  show List.take (min k xs.length - 0) (List.drop 0 xs) = _
  rw [List.drop_zero, Nat.sub_zero]
  by_cases h : k ≤ xs.length
  · rw [Nat.min_eq_left h]
  · rw [Nat.min_eq_right (by omega), List.take_of_length_le (Nat.le_refl _), List.take_of_length_le (by omega)]
theorem nums_drop {ns : List Int} {k : Nat} : (nums ns).drop k = nums (ns.drop k) := by unfold nums; rw [List.map_drop]
theorem nums_take {ns : List Int} {k : Nat} : (nums ns).take k = nums (ns.take k) := by unfold nums; rw [List.map_take]
theorem nums_len {ns : List Int} : (nums ns).length = ns.length := by unfold nums; rw [List.length_map]
theorem nums_snoc {ns : List Int} {k : Int} : nums ns ++ [V.int k] = nums (ns ++ [k]) := by unfold nums; rw [List.map_append]; rfl
theorem C_loop_in (c : Cn K mg) : Cal P w K mg base 2 "loop_in" (sp_loop_in K) [] := by
  refine mkCal (F_loop_in c) (g_loop_in c) sc_loop_in (fun _ _ _ _ _ _ us hl => match us, hl with | [_, _, _], _ => rfl) (fun vs H Q E h => ?_) (fun cdv A outer s H vs Q E hr h => ?_)
  · obtain ⟨t, r, tr, sg, b, ns, z, g, rfl, _⟩ := h
    rfl
  · obtain ⟨t, r, tr, sg, b, ns, z, g, rfl, ht, ⟨p, h1, h2⟩, hb0, hg, hw, hsg, pr, hl, q1, q2⟩ := h
    have hu := hu_of hr
    refine ⟨_, (pss_cons (ps_asg (pv 1) (pgT K (n := 2) rfl (pgs_cons (pg_name (i := 6) sc_loop_in.nd rfl (.inl rfl)) (pgs_cons (pg_name (i := 7) sc_loop_in.nd rfl (.inl rfl)) pgs_nil))))
      (pss_cons (ps_set (i := 3) sc_loop_in.nd rfl (.inl rfl) (pe_lst (pa_cons (pe_ix (ixT K) (pe_ix (ixT K) (pe_begins c (pv 0)) (pv 6) (fun _ _ => rfl)) pe_int (fun _ _ => rfl)) pa_nil)))
      (pss_cons (ps_set (i := 4) sc_loop_in.nd rfl (.inl rfl) (pe_lst pa_nil))
      (pss_cons (ps_for PassesOwn.never rfl (piT K (pv 7)) (pg_name (i := 5) sc_loop_in.nd rfl (.inl rfl))
        (pss_cons (ps_set (i := 8) sc_loop_in.nd rfl (.inl rfl) (pe_ix (ixT K) (pe_ix (ixT K) (pe_moves c (pv 0)) (pv 5) (fun _ _ => rfl)) pe_int (fun _ _ => rfl)))
        (pss_cons (ps_expr (pe_bm PySem.F.plainAttrs_list PySem.F.slot_list_append PySem.F.type_list_append mt_append (pv 4) (pa_cons (pv 5) pa_nil)))
        (pss_one (ps_if (pt_cmpR (inI K) (pv 8) (pv 3) (by rfl))
          (pss_cons (ps_set (i := 9) sc_loop_in.nd rfl (.inl rfl) (pe_bm PySem.F.plainAttrs_list PySem.F.slot_list_index PySem.F.type_list_index mt_index (pv 3) (pa_cons (pv 8) pa_nil)))
          (pss_cons (ps_set (i := 10) sc_loop_in.nd rfl (.inl rfl) (pe_callTy (tupOf K) (by rfl) (m_tuple c) (by decide +kernel) (pa_cons (pe_slice (slL K) (pv 4) (po_some (pv 9)) po_none) pa_nil)))
          (pss_cons (ps_if (pt_cmpR op_gt (pe_op op_mul (pv 2) (pe_c (C_path_lead c) hr (by decide) rfl (pa_cons (pv 0) (pa_cons (pv 10) pa_nil)))) pe_int (nomark _))
            (pss_one (ps_ret (pe_tup (pa_cons (pe_tup (pa_cons (pv 6) (pa_cons (pe_callTy (tupOf K) (by rfl) (m_tuple c) (by decide +kernel) (pa_cons (pe_slice (slL K) (pv 4) po_none (po_some (pv 9))) pa_nil)) pa_nil))) (pa_cons (pv 10) pa_nil)))))
            pss_nil)
          (pss_cons (ps_set (i := 3) sc_loop_in.nd rfl (.inl rfl) (pe_slice (slL K) (pv 3) po_none (po_some (pe_op op_add (pv 9) pe_int))))
          (pss_one (ps_set (i := 4) sc_loop_in.nd rfl (.inl rfl) (pe_slice (slL K) (pv 4) po_none (po_some (pv 9)))))))))
          (pss_one (ps_expr (pe_bm PySem.F.plainAttrs_list PySem.F.slot_list_append PySem.F.type_list_append mt_append (pv 3) (pa_cons (pv 8) pa_nil)))))))))
      (pss_one (ps_ret pe_non)))))), ?_⟩
    refine ⟨_, rfl, r, _, rfl, h1, rfl, _, _, rfl, _, _, rfl, rfl, ?_⟩
    refine ⟨_, rfl, t, tr, rfl, ht, fun bb bv hbb hbv => ?_⟩
    obtain ⟨a, ha, hrow⟩ := hbv.2 _ _ hg
    refine ⟨_, rfl, _, _, _, _, rfl, rfl, hbb, atI_int hb0 ha, _, _, _, _, rfl, rfl, hrow, rfl, (by show 1 ≤ sizeLine; decide), fun S hS => ?_⟩
    refine ⟨Nat.zero_le _, fun M hM => ?_⟩
    have nSM : S ≠ M := ne_of_none upd_same hM
    have hM0 : H M = none := by rw [upd_ne nSM.symm] at hM; exact hM
    have s0 : Same H (upd (upd H S (.lst [.int g.s])) M (.lst [])) := (same_new hS).trans (same_new hM)
    refine ⟨_, rfl, p, rfl, ⟨_, sqT_same h2 s0⟩, for_tup (K := K) (a := p) (xs := nums ns) (fun i σ H' => Same H H' ∧ H S = none ∧ H M = none ∧ S ≠ M ∧ H' S = some (.lst (nums (trail tr.ms g.s (ns.take i)))) ∧ H' M = some (.lst (nums (ns.take i))) ∧ (trail tr.ms g.s (ns.take i)).Nodup ∧ ∃ x5 x8 x9 x10, σ = [some (.ref t), some (.ref r), some (.int sg), some (.ref S), some (.ref M), x5, some (.int b), some (.ref p), x8, x9, x10])
      ⟨s0, hS, hM0, nSM, by rw [upd_ne nSM, upd_same]; rfl, upd_same, by simp [trail], _, _, _, _, rfl⟩ (fun i σ H' _ h => sqT_same h2 h.1) ?_ ?_⟩
    · rintro i x σ H1 hi ⟨s1, hS, hM, nSM, d1, d2, nd, x5, x8, x9, x10, rfl⟩
      obtain ⟨k, rfl, hk⟩ := nums_get hi
      obtain ⟨m, m1, m2, m3, m4, m5⟩ := wk_at hw hk
      have il : i < ns.length := (List.getElem?_eq_some_iff.mp hk).1
      have et : ns.take (i + 1) = ns.take i ++ [k] := by rw [List.take_add_one, hk]; rfl
      have etg : tgt tr.ms k = m.t := by unfold tgt; rw [m3]
      refine ⟨_, rfl, t, tr, rfl, ht.same s1, fun mm mv hmm hmv => ?_⟩
      obtain ⟨a, ha, hrow⟩ := hmv.2 _ _ m3
      refine ⟨_, rfl, _, _, _, _, rfl, rfl, hmm, atI_int m1 ha, _, _, _, _, rfl, rfl, hrow, rfl, ?_⟩
      refine ⟨_, rfl, .inl ⟨rfl, _, SqL.of d2⟩, _, rfl, M, _, _, rfl, rfl, d2, big (by rw [nums_len, List.length_take]; omega), ?_⟩
      have s2 : Same H (upd H1 M (.lst (nums (ns.take i) ++ [V.int k]))) := Same.wr s1 hM
      have d1' : upd H1 M (.lst (nums (ns.take i) ++ [V.int k])) S = some (.lst (nums (trail tr.ms g.s (ns.take i)))) := by rw [upd_ne nSM]; exact d1
      have d2' : upd H1 M (.lst (nums (ns.take i) ++ [V.int k])) M = some (.lst (nums (ns.take (i + 1)))) := by rw [upd_same, nums_snoc, ← et]
      generalize hH2 : upd H1 M (.lst (nums (ns.take i) ++ [V.int k])) = H2 at s2 d1' d2'
      refine ⟨_, rfl, _, rfl, m.t, trail tr.ms g.s (ns.take i), S, rfl, rfl, .inl (SqL.of d1'), _, rfl, ?_⟩
      refine iteD (fun hin => ?_) (fun hin => ?_)
      · -- the state was met at place j
        obtain ⟨j, hj⟩ := List.mem_iff_getElem?.mp hin
        have hjl : j ≤ i := by
          have := (List.getElem?_eq_some_iff.mp hj).1
          rw [trail_len, List.length_take] at this
          omega
        have hjt : (trail tr.ms g.s ns)[j]? = some m.t := by
          rw [trail_take, List.getElem?_take_of_lt (by omega)] at hj
          exact hj
        have hit : (trail tr.ms g.s ns)[i + 1]? = some m.t := by
          unfold trail
          rw [List.getElem?_cons_succ, List.getElem?_map, hk]
          exact congrArg some etg
        have rep : (trail tr.ms g.s ns)[j]? = (trail tr.ms g.s ns)[i + 1]? := by rw [hjt, hit]
        have pos := pr j (i + 1) (by omega) (by omega) rep
        refine ⟨_, rfl, .inl ⟨rfl, _, SqL.of d1'⟩, _, rfl, S, _, .int m.t, j, .int m.t, rfl, rfl, SqL.of d1', rfl, flat_nums, ?_, ?_, ?_, ?_⟩
        · unfold nums
          rw [List.getElem?_map, hj]
          rfl
        · show (m.t == m.t) = true
          simp
        · intro n z' hn hz
          obtain ⟨u, rfl, hu'⟩ := nums_get hz
          show (u == m.t) = false
          refine beq_eq_false_iff_ne.mpr fun e => ?_
          rw [e] at hu'
          have := (List.getElem?_inj (by have := (List.getElem?_eq_some_iff.mp hj).1; omega) nd).mp (hu'.trans hj.symm)
          omega
        · refine ⟨_, rfl, _, rfl, _, rfl, M, _, rfl, SqL.of d2', fun L hL => ?_⟩
          have sL : Same H2 (upd H2 L (.lst (cutV (nums (ns.take (i + 1))) (some (j : Int)) none))) := same_new hL
          have eL : cutV (nums (ns.take (i + 1))) (some (j : Int)) none = nums (seg ns j (i + 1)) := by
            rw [cut_from (by rw [nums_len, List.length_take]; omega), nums_drop]
            rfl
          refine ⟨L, _, rfl, .inl ⟨SqL.of upd_same, fun L2 hL2 => ?_⟩⟩
          rw [eL] at hL2 sL ⊢
          generalize hH3 : upd H2 L (.lst (nums (seg ns j (i + 1)))) = H3 at hL2 sL
          have sL2 : Same H3 (upd H3 L2 (.tup (nums (seg ns j (i + 1))))) := same_new hL2
          have s4 : Same H (upd H3 L2 (.tup (nums (seg ns j (i + 1))))) := (s2.trans sL).trans sL2
          have hsegl : (seg ns j (i + 1)).length ≤ ns.length := by unfold seg; rw [List.length_drop, List.length_take]; omega
          have win : Within tr (seg ns j (i + 1)) := fun y hy => wk_within hw y (List.mem_of_mem_take (List.mem_of_mem_drop hy))
          have hL2s : upd H3 L2 (.tup (nums (seg ns j (i + 1)))) L2 = some (.tup (nums (seg ns j (i + 1)))) := upd_same
          have dM4 := sL2 _ _ (sL _ _ d2')
          generalize hH4 : upd H3 L2 (.tup (nums (seg ns j (i + 1)))) = H4 at s4 hL2s dM4
          refine ⟨_, rfl, _, rfl, _, rfl, t, L2, tr, seg ns j (i + 1), rfl, ht.same s4, SqT.of hL2s, win, big (by omega), fun H5 s5 => ?_⟩
          refine ⟨_, _, rfl, rfl, .inl (by rcases hsg with rfl | rfl <;> decide), _, _, rfl, rfl, _, rfl, ?_⟩
          refine ifT pos ?_
          refine ⟨_, rfl, _, rfl, _, rfl, _, rfl, M, _, rfl, SqL.of (s5 _ _ dM4), fun L6 hL6 => ?_⟩
          have e6 : cutV (nums (ns.take (i + 1))) none (some (j : Int)) = nums (ns.take j) := by
            rw [cut_to, nums_take, List.take_take, Nat.min_eq_left (by omega)]
          rw [e6] at ⊢
          have s6 : Same H5 (upd H5 L6 (.lst (nums (ns.take j)))) := same_new hL6
          refine ⟨_, _, rfl, .inl ⟨SqL.of upd_same, fun L7 hL7 => ?_⟩⟩
          generalize hH6 : upd H5 L6 (.lst (nums (ns.take j))) = H6 at hL7 s6
          have s7 : Same H6 (upd H6 L7 (.tup (nums (ns.take j)))) := same_new hL7
          refine ⟨(by show 2 ≤ sizeLine; decide), fun L8 hL8 => ?_⟩
          have d7 : upd H6 L7 (.tup (nums (ns.take j))) L7 = some (.tup (nums (ns.take j))) := upd_same
          generalize hH7 : upd H6 L7 (.tup (nums (ns.take j))) = H7 at hL8 s7 d7
          have s8 : Same H7 (upd H7 L8 (.tup [.int b, .ref L7])) := same_new hL8
          have d8 : upd H7 L8 (.tup [.int b, .ref L7]) L8 = some (.tup [.int b, .ref L7]) := upd_same
          generalize hH8 : upd H7 L8 (.tup [.int b, .ref L7]) = H8 at s8 d8
          refine ⟨_, rfl, (by show 2 ≤ sizeLine; decide), fun L9 hL9 => ?_⟩
          have s9 : Same H8 (upd H8 L9 (.tup [.ref L8, .ref L2])) := same_new hL9
          have s58 : Same H5 H8 := (s6.trans s7).trans s8
          refine q2 j (i + 1) (by omega) (by omega) rep _ L9 L8 L2 ((s4.trans s5).trans (s58.trans s9)) (SqT.of upd_same) ⟨L7, SqT.of (s9 _ _ d8), SqT.of (s9 _ _ (s8 _ _ d7))⟩ (SqT.of ((s5.trans (s58.trans s9)) _ _ hL2s))
      · refine ⟨_, rfl, .inl ⟨rfl, _, SqL.of d1'⟩, _, rfl, S, _, _, rfl, rfl, d1', big (by rw [nums_len, trail_len, List.length_take]; omega), ?_⟩
        refine ⟨Same.wr s2 hS, hS, hM, nSM, ?_, ?_, ?_, _, _, _, _, rfl⟩
        · rw [upd_same, nums_snoc, et, trail_snoc, etg]
        · rw [upd_ne nSM.symm]
          exact d2'
        · rw [et, trail_snoc, etg]
          rw [List.nodup_append]
          exact ⟨nd, by simp, fun a ha b hb e => hin (by simp at hb; rw [← hb, ← e]; exact ha)⟩
    · rintro σ H1 ⟨s1, hS, hM, nSM, d1, d2, nd, x5, x8, x9, x10, rfl⟩
      rw [List.take_of_length_le (by rw [nums_len]; exact Nat.le_refl _)] at nd
      exact q1 nd H1 s1
end
end K86
end
section
set_option maxHeartbeats 4000000
namespace K86
open PySem PySem.Spec PyProof.Rows L2
/-! ### the plain part of Longest -/
theorem sum_append : ∀ (a b : List Int), (a ++ b).sum = a.sum + b.sum
  | [], b => by simp
  | x :: a, b => by
    have := sum_append a b
    simp only [List.cons_append, List.sum_cons]
    omega
theorem pathLead_app {tr : Tr} {a b : List Int} : pathLead tr (a ++ b) = pathLead tr a + pathLead tr b := by
  unfold pathLead
  rw [List.map_append, sum_append]
theorem pathLead_one {tr : Tr} {i : Int} : pathLead tr [i] = leadAt tr i := by
  unfold pathLead
  simp
theorem leadOf_app {tr : Tr} {b : Int} {x y : List Int} : leadOf tr b (x ++ y) = leadOf tr b x + pathLead tr y := by
  unfold leadOf
  rw [pathLead_app]
  omega
theorem take_seg {ns : List Int} {k j : Nat} (h : k ≤ j) : ns.take k ++ seg ns k j = ns.take j := by
  unfold seg
  have e : ns.take k = (ns.take j).take k := by rw [List.take_take, Nat.min_eq_left h]
  rw [e, List.take_append_drop]
def setF (f : Int → Option α) (s : Int) (v : α) : Int → Option α := fun x => if x = s then some v else f x
theorem setF_same {f : Int → Option α} {s : Int} {v : α} : setF f s v s = some v := if_pos rfl
theorem setF_ne {f : Int → Option α} {s x : Int} {v : α} (h : x ≠ s) : setF f s v x = f x := if_neg h
def present (us : List Int) (wf : Int → Option Int) : Nat := (us.filter fun s => (wf s).isSome).length
/-- a run of the machine that is kept at s with the worth v -/
structure Kept (tr : Tr) (sg : Int) (L : Nat) (wf : Int → Option Int) (s v : Int) (b : Int) (ns : List Int) (g : Bg) : Prop where
  b0 : 0 ≤ b
  bg : tr.bs[b.toNat]? = some g
  go : wk tr.ms g.s ns = some s
  wo : v = sg * leadOf tr b ns
  ln : ns.length ≤ L
  ps : PosRep tr sg g.s ns
  pre : ∀ (k : Nat) (u : Int), k ≤ ns.length → (trail tr.ms g.s ns)[k]? = some u → u ∈ tr.us ∧ ∃ v', wf u = some v' ∧ sg * leadOf tr b (ns.take k) ≤ v'
structure LInv (tr : Tr) (sg : Int) (L : Nat) (wf : Int → Option Int) (rf : Int → Option (Int × List Int)) : Prop where
  run : ∀ s v, wf s = some v → ∃ b ns g, rf s = some (b, ns) ∧ Kept tr sg L wf s v b ns g
  non : ∀ s, wf s = none → rf s = none
  low : ∀ s v, wf s = some v → -9 * ((present tr.us wf : Nat) : Int) ≤ v
/-- later tables have more -/
def Up (wf wf' : Int → Option Int) : Prop := ∀ s v, wf s = some v → ∃ v', wf' s = some v' ∧ v ≤ v'
theorem Up.refl (wf : Int → Option Int) : Up wf wf := fun s v h => ⟨v, h, Int.le_refl _⟩
theorem Up.trans {a b c : Int → Option Int} (h : Up a b) (g : Up b c) : Up a c := fun s v e => by
  obtain ⟨v1, h1, l1⟩ := h s v e
  obtain ⟨v2, h2, l2⟩ := g s v1 h1
  exact ⟨v2, h2, by omega⟩
theorem Kept.up {tr : Tr} {sg : Int} {L L' : Nat} {wf wf' : Int → Option Int} {s v b : Int} {ns : List Int} {g : Bg} (h : Kept tr sg L wf s v b ns g) (u : Up wf wf') (l : L ≤ L') : Kept tr sg L' wf' s v b ns g :=
  ⟨h.b0, h.bg, h.go, h.wo, Nat.le_trans h.ln l, h.ps, fun k x hk e => by
    obtain ⟨h1, v', h2, h3⟩ := h.pre k x hk e
    obtain ⟨v2, h4, h5⟩ := u x v' h2
    exact ⟨h1, v2, h4, by omega⟩⟩
theorem up_set {wf : Int → Option Int} {t wv : Int} (h : ∀ v, wf t = some v → v < wv) : Up wf (setF wf t wv) := fun s v e => by
  by_cases hs : s = t
  · subst hs
    exact ⟨wv, setF_same, Int.le_of_lt (h v e)⟩
  · exact ⟨v, (setF_ne hs).trans e, Int.le_refl _⟩
theorem filter_le {us : List Int} {p q : Int → Bool} (h : ∀ x ∈ us, p x = true → q x = true) : (us.filter p).length ≤ (us.filter q).length := by
  induction us with
  | nil => simp
  | cons x us ih =>
    have ih' := ih fun y hy => h y (List.mem_cons_of_mem _ hy)
    by_cases hp : p x = true
    · have hq := h x List.mem_cons_self hp
      rw [List.filter_cons_of_pos hp, List.filter_cons_of_pos hq]
      simp only [List.length_cons]
      omega
    · rw [List.filter_cons_of_neg hp]
      by_cases hq : q x = true
      · rw [List.filter_cons_of_pos hq]
        simp only [List.length_cons]
        omega
      · rw [List.filter_cons_of_neg hq]
        exact ih'
theorem filter_lt {us : List Int} {p q : Int → Bool} (h : ∀ x ∈ us, p x = true → q x = true) {t : Int} (ht : t ∈ us) (h1 : p t = false) (h2 : q t = true) : (us.filter p).length + 1 ≤ (us.filter q).length := by
  induction us with
  | nil => cases ht
  | cons x us ih =>
    have h' := fun y (hy : y ∈ us) => h y (List.mem_cons_of_mem _ hy)
    by_cases hx : x = t
    · subst hx
      have := filter_le h'
      rw [List.filter_cons_of_neg (by simp [h1]), List.filter_cons_of_pos h2]
      simp only [List.length_cons]
      omega
    · have ht' : t ∈ us := by
        rcases List.mem_cons.mp ht with e | e
        · exact absurd e.symm hx
        · exact e
      have ih' := ih h' ht'
      by_cases hp : p x = true
      · have hq := h x List.mem_cons_self hp
        rw [List.filter_cons_of_pos hp, List.filter_cons_of_pos hq]
        simp only [List.length_cons]
        omega
      · rw [List.filter_cons_of_neg hp]
        by_cases hq : q x = true
        · rw [List.filter_cons_of_pos hq]
          simp only [List.length_cons]
          omega
        · rw [List.filter_cons_of_neg hq]
          exact ih'
theorem up_some {wf wf' : Int → Option Int} (u : Up wf wf') {s : Int} (h : (wf s).isSome = true) : (wf' s).isSome = true := by
  obtain ⟨v, e⟩ := Option.isSome_iff_exists.mp h
  obtain ⟨v', e', _⟩ := u s v e
  rw [e']
  rfl
/-- a begin is taken -/
theorem LInv.begin {tr : Tr} {sg : Int} {L : Nat} {wf : Int → Option Int} {rf : Int → Option (Int × List Int)} (I : LInv tr sg L wf rf) (ok : TrOk tr) (hsg : sg = 1 ∨ sg = -1) {b : Int} {g : Bg} (b0 : 0 ≤ b) (hg : tr.bs[b.toNat]? = some g) (hu : g.s ∈ tr.us)
    (hlt : ∀ v, wf g.s = some v → v < sg * (g.w.length : Int)) : LInv tr sg L (setF wf g.s (sg * (g.w.length : Int))) (setF rf g.s (b, [])) := by
  have up := up_set hlt
  have e0 : sg * (g.w.length : Int) = sg * leadOf tr b [] := by
    unfold leadOf bgAt pathLead
    rw [hg]
    simp
  refine ⟨fun s v h => ?_, fun s h => ?_, fun s v h => ?_⟩
  · by_cases hs : s = g.s
    · subst hs
      rw [setF_same] at h
      cases h
      refine ⟨b, [], g, setF_same, b0, hg, rfl, e0, Nat.zero_le _, fun k j h1 h2 _ => ?_, fun k u hk e => ?_⟩
      · simp at h2; omega
      · have : k = 0 := by simpa using hk
        subst this
        have eu : g.s = u := by simpa [trail] using e
        subst eu
        exact ⟨hu, _, setF_same, by rw [e0]; simp⟩
    · rw [setF_ne hs] at h
      obtain ⟨b', ns, g', h1, h2⟩ := I.run s v h
      exact ⟨b', ns, g', (setF_ne hs).trans h1, h2.up up (Nat.le_refl _)⟩
  · by_cases hs : s = g.s
    · subst hs
      rw [setF_same] at h
      cases h
    · rw [setF_ne hs] at h ⊢
      exact I.non s h
  · have w9 := ok.bw g (List.mem_of_getElem? hg)
    have mono : present tr.us wf ≤ present tr.us (setF wf g.s (sg * (g.w.length : Int))) := filter_le fun x _ h => up_some up h
    by_cases hs : s = g.s
    · subst hs
      rw [setF_same] at h
      cases h
      cases e : wf g.s with
      | none =>
        have := filter_lt (us := tr.us) (p := fun s => (wf s).isSome) (q := fun s => (setF wf g.s (sg * (g.w.length : Int)) s).isSome) (fun x _ h => up_some up h) hu (by simp [e]) (by simp [setF_same])
        unfold present
        rcases hsg with rfl | rfl <;> omega
      | some v0 =>
        have l1 := I.low _ _ e
        have l2 := hlt v0 e
        omega
    · rw [setF_ne hs] at h
      have := I.low s v h
      omega
/-- a move is taken -/
theorem LInv.move {tr : Tr} {sg : Int} {L : Nat} {wf : Int → Option Int} {rf : Int → Option (Int × List Int)} (I : LInv tr sg L wf rf) (ok : TrOk tr) (hsg : sg = 1 ∨ sg = -1) {i : Int} {m : Mv} (i0 : 0 ≤ i) (hm : tr.ms[i.toNat]? = some m) (hs : m.s ∈ tr.us) (ht : m.t ∈ tr.us)
    {v b : Int} {ns : List Int} {g : Bg} (hv : wf m.s = some v) (hr : rf m.s = some (b, ns)) (hk : Kept tr sg L wf m.s v b ns g)
    (hlt : ∀ v', wf m.t = some v' → v' < v + sg * ((m.w.length : Int) - 1)) : LInv tr sg (L + 1) (setF wf m.t (v + sg * ((m.w.length : Int) - 1))) (setF rf m.t (b, ns ++ [i])) := by
  have up := up_set hlt
  have il : i < tr.ms.length := by have := (List.getElem?_eq_some_iff.mp hm).1; omega
  have eL : leadAt tr i = (m.w.length : Int) - 1 := by unfold leadAt; rw [hm]
  have etg : tgt tr.ms i = m.t := by unfold tgt; rw [hm]
  have e0 : v + sg * ((m.w.length : Int) - 1) = sg * leadOf tr b (ns ++ [i]) := by
    rw [leadOf_app, pathLead_one, eL, hk.wo, Int.mul_add]
  have hgo : wk tr.ms g.s (ns ++ [i]) = some m.t := by
    rw [wk_snoc, hk.go]
    unfold stepF
    simp only [Option.bind_some]
    rw [if_pos ⟨i0, il⟩, hm]
    simp
  refine ⟨fun s v1 h => ?_, fun s h => ?_, fun s v1 h => ?_⟩
  · by_cases hs1 : s = m.t
    · subst hs1
      rw [setF_same] at h
      cases h
      refine ⟨b, ns ++ [i], g, setF_same, hk.b0, hk.bg, hgo, e0, by rw [List.length_append]; have := hk.ln; simp; omega, fun k j h1 h2 h3 => ?_, fun k u hk1 e => ?_⟩
      · rw [List.length_append] at h2
        simp at h2
        rw [trail_snoc, etg] at h3
        have tl := trail_len (ms := tr.ms) (s := g.s) (ns := ns)
        by_cases hj : j ≤ ns.length
        · rw [List.getElem?_append_left (by omega), List.getElem?_append_left (by omega)] at h3
          have e : seg (ns ++ [i]) k j = seg ns k j := by unfold seg; rw [List.take_append_of_le_length hj]
          rw [e]
          exact hk.ps k j h1 hj h3
        · have ej : j = ns.length + 1 := by omega
          subst ej
          rw [List.getElem?_append_left (by omega), List.getElem?_append_right (by omega), tl, Nat.sub_self] at h3
          obtain ⟨_, v', hv', hle⟩ := hk.pre k m.t (by omega) h3
          have := hlt v' hv'
          have e1 := take_seg (ns := ns ++ [i]) (k := k) (j := ns.length + 1) (by omega)
          have t1 : (ns ++ [i]).take k = ns.take k := List.take_append_of_le_length (by omega)
          have t2 : (ns ++ [i]).take (ns.length + 1) = ns ++ [i] := List.take_of_length_le (by simp)
          rw [t1, t2] at e1
          have e2 : leadOf tr b (ns ++ [i]) = leadOf tr b (ns.take k) + pathLead tr (seg (ns ++ [i]) k (ns.length + 1)) := by rw [← leadOf_app, e1]
          have e3 : sg * leadOf tr b (ns ++ [i]) = sg * leadOf tr b (ns.take k) + sg * pathLead tr (seg (ns ++ [i]) k (ns.length + 1)) := by rw [e2, Int.mul_add]
          omega
      · rw [trail_snoc, etg] at e
        have tl := trail_len (ms := tr.ms) (s := g.s) (ns := ns)
        rw [List.length_append] at hk1
        simp at hk1
        by_cases hj : k ≤ ns.length
        · rw [List.getElem?_append_left (by omega)] at e
          rw [List.take_append_of_le_length hj]
          obtain ⟨h1, v', h2, h3⟩ := hk.pre k u hj e
          obtain ⟨v2, h4, h5⟩ := up u v' h2
          exact ⟨h1, v2, h4, by omega⟩
        · have ej : k = ns.length + 1 := by omega
          subst ej
          rw [List.getElem?_append_right (by omega), tl, Nat.sub_self] at e
          have eu : m.t = u := by simpa using e
          subst eu
          refine ⟨ht, _, setF_same, ?_⟩
          rw [List.take_of_length_le (by simp), e0]
          exact Int.le_refl _
    · rw [setF_ne hs1] at h
      obtain ⟨b', ns', g', h1, h2⟩ := I.run s v1 h
      exact ⟨b', ns', g', (setF_ne hs1).trans h1, h2.up up (Nat.le_succ _)⟩
  · by_cases hs1 : s = m.t
    · subst hs1
      rw [setF_same] at h
      cases h
    · rw [setF_ne hs1] at h ⊢
      exact I.non s h
  · have w9 := ok.mw m (List.mem_of_getElem? hm)
    have mono : present tr.us wf ≤ present tr.us (setF wf m.t (v + sg * ((m.w.length : Int) - 1))) := filter_le fun x _ h => up_some up h
    by_cases hs1 : s = m.t
    · subst hs1
      rw [setF_same] at h
      cases h
      have lv := I.low _ _ hv
      cases e : wf m.t with
      | none =>
        have := filter_lt (us := tr.us) (p := fun s => (wf s).isSome) (q := fun s => (setF wf m.t (v + sg * ((m.w.length : Int) - 1)) s).isSome) (fun x _ h => up_some up h) ht (by simp [e]) (by simp [setF_same])
        unfold present at lv ⊢
        rcases hsg with rfl | rfl <;> omega
      | some v0 =>
        have l1 := I.low _ _ e
        have l2 := hlt v0 e
        omega
    · rw [setF_ne hs1] at h
      have := I.low s v1 h
      omega
theorem LInv.zero {tr : Tr} {sg : Int} : LInv tr sg 0 (fun _ => none) (fun _ => none) := ⟨fun _ _ h => (nomatch h), fun _ _ => rfl, fun _ _ h => (nomatch h)⟩
theorem LInv.wide {tr : Tr} {sg : Int} {L L' : Nat} {wf : Int → Option Int} {rf : Int → Option (Int × List Int)} (I : LInv tr sg L wf rf) (h : L ≤ L') : LInv tr sg L' wf rf :=
  ⟨fun s v e => let ⟨b, ns, g, h1, h2⟩ := I.run s v e; ⟨b, ns, g, h1, h2.up (Up.refl _) h⟩, I.non, I.low⟩
/-! the measure: what is still to rise -/
def mu1 (o : Option Int) : Nat := match o with
  | none => 400
  | some v => (100 - v).toNat
def mu (us : List Int) (wf : Int → Option Int) : Nat := (us.map fun s => mu1 (wf s)).sum
theorem sum_le {us : List Int} {f g : Int → Nat} (h : ∀ x ∈ us, f x ≤ g x) : (us.map f).sum ≤ (us.map g).sum := by
  induction us with
  | nil => simp
  | cons x us ih =>
    have := ih fun y hy => h y (List.mem_cons_of_mem _ hy)
    have := h x List.mem_cons_self
    simp only [List.map_cons, List.sum_cons]
    omega
theorem sum_lt {us : List Int} {f g : Int → Nat} (h : ∀ x ∈ us, f x ≤ g x) {t : Int} (ht : t ∈ us) (hl : f t < g t) : (us.map f).sum < (us.map g).sum := by
  induction us with
  | nil => cases ht
  | cons x us ih =>
    have h' := fun y (hy : y ∈ us) => h y (List.mem_cons_of_mem _ hy)
    have hx := h x List.mem_cons_self
    simp only [List.map_cons, List.sum_cons]
    rcases List.mem_cons.mp ht with e | e
    · subst e
      have := sum_le h'
      omega
    · have := ih h' e
      omega
theorem present_le {us : List Int} {wf : Int → Option Int} : present us wf ≤ us.length := List.length_filter_le _ _
theorem mu_drop {tr : Tr} {sg : Int} {L : Nat} {wf wf' : Int → Option Int} {rf' : Int → Option (Int × List Int)} (I : LInv tr sg L wf' rf') (ok : TrOk tr) (u : Up wf wf') {z v : Int} (hz : z ∈ tr.us) (hv : wf' z = some v) (hlt : ∀ v0, wf z = some v0 → v0 < v) (hb : v ≤ 99) : mu tr.us wf' < mu tr.us wf := by
  have p9 : ∀ s v, wf' s = some v → -81 ≤ v := fun s v h => by
    have := I.low s v h
    have l1 := present_le (us := tr.us) (wf := wf')
    have l2 := ok.ln.2.2
    omega
  refine sum_lt (fun x hx => ?_) hz ?_
  · cases e : wf x with
    | none =>
      cases e' : wf' x with
      | none => exact Nat.le_refl _
      | some v' =>
        have := p9 x v' e'
        show (100 - v').toNat ≤ 400
        omega
    | some v0 =>
      obtain ⟨v', e', hl⟩ := u x v0 e
      rw [e']
      show (100 - v').toNat ≤ (100 - v0).toNat
      omega
  · rw [hv]
    cases e : wf z with
    | none =>
      have := p9 z v hv
      show (100 - v).toNat < 400
      omega
    | some v0 =>
      have := hlt v0 e
      show (100 - v).toNat < (100 - v0).toNat
      omega
theorem mu_le {us : List Int} {wf : Int → Option Int} (h : ∀ s v, wf s = some v → -81 ≤ v) : mu us wf ≤ 400 * us.length := by
  unfold mu
  induction us with
  | nil => simp
  | cons x us ih =>
    simp only [List.map_cons, List.sum_cons, List.length_cons]
    have : mu1 (wf x) ≤ 400 := by
      cases e : wf x with
      | none => exact Nat.le_refl _
      | some v =>
        have := h x v e
        show (100 - v).toNat ≤ 400
        omega
    omega
/-- a path without repeated states is short, its worth small -/
theorem simple_worth {tr : Tr} {sg : Int} {L : Nat} {wf : Int → Option Int} {s v b : Int} {ns : List Int} {g : Bg} (h : Kept tr sg L wf s v b ns g) (ok : TrOk tr) (hsg : sg = 1 ∨ sg = -1) (nd : (trail tr.ms g.s ns).Nodup) : v ≤ 99 ∧ ns.length + 1 ≤ tr.us.length := by
  have sub : trail tr.ms g.s ns ⊆ tr.us := fun u hu => by
    obtain ⟨k, hk⟩ := List.mem_iff_getElem?.mp hu
    have kl := (List.getElem?_eq_some_iff.mp hk).1
    rw [trail_len] at kl
    exact (h.pre k u (by omega) hk).1
  have l1 := nd.length_le_of_subset sub
  rw [trail_len] at l1
  have l2 := ok.ln.2.2
  have pl : ∀ ns : List Int, sg * pathLead tr ns ≤ 9 * (ns.length : Int) := fun ns => by
    induction ns with
    | nil => unfold pathLead; simp
    | cons i ns ih =>
      have e : pathLead tr (i :: ns) = leadAt tr i + pathLead tr ns := by unfold pathLead; simp
      have a : sg * leadAt tr i ≤ 9 := by
        unfold leadAt
        cases e : tr.ms[i.toNat]? with
        | none => simp
        | some m =>
          have := ok.mw m (List.mem_of_getElem? e)
          show sg * ((m.w.length : Int) - 1) ≤ 9
          rcases hsg with rfl | rfl <;> omega
      rw [e, Int.mul_add]
      simp only [List.length_cons]
      omega
  have w9 := ok.bw g (List.mem_of_getElem? h.bg)
  have a := pl ns
  have e : v = sg * (g.w.length : Int) + sg * pathLead tr ns := by
    rw [h.wo]
    unfold leadOf bgAt
    rw [h.bg, Int.mul_add]
  refine ⟨?_, l1⟩
  have : (ns.length : Int) ≤ 8 := by omega
  rcases hsg with rfl | rfl <;> omega
end K86
end
section
set_option maxHeartbeats 4000000
namespace K86
open PySem PySem.Spec PyProof.Rows L2
open C8 (Cal Met Mak pe_c pe_mk pe_mt pe_mt0)
section
variable {P : Program} {w : World} {K : PySem.W.Frag} {mg : Str → Option Value} {base : Heap}
def loF (t : Addr) (sg : Int) (wa ra : Addr) : List (Str × V) := [("translator_told", .ref t), ("sign", .int sg), ("has_floor", .bl false), ("worths", .ref wa), ("runs", .ref ra)]
theorem putK_keys (kvs : List (Key × V)) (k : Key) (v : V) : (putK kvs k v).map (·.1) = if (valV kvs k).isSome = true then kvs.map (·.1) else kvs.map (·.1) ++ [k] := by
  unfold putK
  rw [valV_any]
  by_cases h : (valV kvs k).isSome = true
  · rw [if_pos h, if_pos h, List.map_map]
    refine List.map_congr_left fun kv _ => ?_
    show (if kv.1 = k then (kv.1, v) else kv).1 = kv.1
    split <;> rfl
  · rw [if_neg h, if_neg h, List.map_append]
    rfl
theorem valV_mem {kvs : List (Key × V)} {k : Key} : (valV kvs k).isSome = true ↔ k ∈ kvs.map (·.1) := by
  rw [← valV_any, List.any_eq_true, List.mem_map]
  constructor
  · rintro ⟨x, h1, h2⟩
    exact ⟨x, h1, of_decide_eq_true h2⟩
  · rintro ⟨x, h1, h2⟩
    exact ⟨x, h1, decide_eq_true h2⟩
theorem putK_nd {kvs : List (Key × V)} {k : Key} {v : V} (h : (kvs.map (·.1)).Nodup) : ((putK kvs k v).map (·.1)).Nodup := by
  rw [putK_keys]
  split
  · exact h
  · rename_i hn
    rw [List.nodup_append]
    refine ⟨h, by simp, fun a ha b hb e => ?_⟩
    have hb' : b = k := by simpa using hb
    exact hn (valV_mem.mpr (by rw [← hb', ← e]; exact ha))
theorem putK_mem {kvs : List (Key × V)} {k : Key} {v : V} {kv : Key × V} (h : kv ∈ putK kvs k v) : kv = (k, v) ∨ kv ∈ kvs := by
  unfold putK at h
  split at h
  · obtain ⟨x, hx, e⟩ := List.mem_map.mp h
    by_cases hk : x.1 = k
    · rw [if_pos hk] at e
      exact .inl (by rw [← e, hk])
    · rw [if_neg hk] at e
      exact .inr (e ▸ hx)
  · rcases List.mem_append.mp h with h | h
    · exact .inr h
    · exact .inl (by simpa using h)
theorem inl_eq {s x : Int} : ((.inl s : Key) = .inl x) ↔ s = x := ⟨fun h => Sum.inl.inj h, fun h => by rw [h]⟩
structure DW (us : List Int) (W : List (Key × V)) (wf : Int → Option Int) : Prop where
  nd : (W.map (·.1)).Nodup
  ks : ∀ kv ∈ W, ∃ s i, kv = (.inl s, .int i) ∧ s ∈ us
  get : ∀ s, valV W (.inl s) = (wf s).map V.int
structure DR (K : PySem.W.Frag) (H : Hp) (us : List Int) (R : List (Key × V)) (rf : Int → Option (Int × List Int)) : Prop where
  nd : (R.map (·.1)).Nodup
  ks : ∀ kv ∈ R, ∃ s r, kv = (.inl s, .ref r) ∧ s ∈ us
  no : ∀ s, rf s = none → valV R (.inl s) = none
  get : ∀ s b ns, rf s = some (b, ns) → ∃ r, valV R (.inl s) = some (.ref r) ∧ RunAt K H r b ns
theorem keys_le {us : List Int} {W : List (Key × V)} (nd : (W.map (·.1)).Nodup) (ks : ∀ kv ∈ W, ∃ s, kv.1 = .inl s ∧ s ∈ us) : W.length ≤ us.length := by
  have := nd.length_le_of_subset (l₂ := us.map (Sum.inl : Int → Key)) fun k hk => by
    obtain ⟨kv, h1, h2⟩ := List.mem_map.mp hk
    obtain ⟨s, e, hs⟩ := ks kv h1
    rw [← h2, e]
    exact List.mem_map_of_mem hs
  simpa using this
theorem DW.le {us : List Int} {W : List (Key × V)} {wf : Int → Option Int} (d : DW us W wf) : W.length ≤ us.length := keys_le d.nd fun kv h => let ⟨s, i, e, hs⟩ := d.ks kv h; ⟨s, by rw [e], hs⟩
theorem DR.le {H : Hp} {us : List Int} {R : List (Key × V)} {rf : Int → Option (Int × List Int)} (d : DR K H us R rf) : R.length ≤ us.length := keys_le d.nd fun kv h => let ⟨s, i, e, hs⟩ := d.ks kv h; ⟨s, by rw [e], hs⟩
theorem DW.put {us : List Int} {W : List (Key × V)} {wf : Int → Option Int} (d : DW us W wf) {s i : Int} (hs : s ∈ us) : DW us (putK W (.inl s) (.int i)) (setF wf s i) := by
  refine ⟨putK_nd d.nd, fun kv h => ?_, fun x => ?_⟩
  · rcases putK_mem h with rfl | h
    · exact ⟨s, i, rfl, hs⟩
    · exact d.ks kv h
  · rw [valV_put]
    by_cases hx : x = s
    · rw [if_pos (by rw [hx]), hx, setF_same]
      rfl
    · rw [if_neg (fun e => hx (Sum.inl.inj e)), setF_ne hx]
      exact d.get x
theorem DR.put {H : Hp} {us : List Int} {R : List (Key × V)} {rf : Int → Option (Int × List Int)} (d : DR K H us R rf) {s b : Int} {ns : List Int} {r : Addr} (hs : s ∈ us) (hr : RunAt K H r b ns) : DR K H us (putK R (.inl s) (.ref r)) (setF rf s (b, ns)) := by
  refine ⟨putK_nd d.nd, fun kv h => ?_, fun x hx => ?_, fun x b' ns' hx => ?_⟩
  · rcases putK_mem h with rfl | h
    · exact ⟨s, r, rfl, hs⟩
    · exact d.ks kv h
  · rw [valV_put]
    by_cases e : x = s
    · subst e
      rw [setF_same] at hx
      cases hx
    · rw [if_neg (fun z => e (Sum.inl.inj z))]
      rw [setF_ne e] at hx
      exact d.no x hx
  · rw [valV_put]
    by_cases e : x = s
    · subst e
      rw [setF_same] at hx
      cases hx
      exact ⟨r, if_pos rfl, hr⟩
    · rw [if_neg (fun z => e (Sum.inl.inj z))]
      rw [setF_ne e] at hx
      exact d.get x b' ns' hx
theorem DR.im {H H' : Hp} {us : List Int} {R : List (Key × V)} {rf : Int → Option (Int × List Int)} (d : DR K H us R rf) (e : Im H H') : DR K H' us R rf := ⟨d.nd, d.ks, d.no, fun s b ns h => let ⟨r, h1, h2⟩ := d.get s b ns h; ⟨r, h1, h2.im e⟩⟩
structure LoSt (K : PySem.W.Frag) (H : Hp) (p t : Addr) (tr : Tr) (sg : Int) (wa ra : Addr) (wf : Int → Option Int) (rf : Int → Option (Int × List Int)) : Prop where
  ins : ∃ dx, H p = some (.ins (aLo K) dx (loF t sg wa ra))
  wo : ∃ W, H wa = some (.dK W) ∧ DW tr.us W wf
  ru : ∃ R, H ra = some (.dK R) ∧ DR K H tr.us R rf
  ne : wa ≠ ra
  tr : TrAt K H t tr
/-- all but the two tables stands -/
def Bx (wa ra : Addr) (H H' : Hp) : Prop := ∀ a o, H a = some o → a ≠ wa → a ≠ ra → H' a = some o
theorem Bx.refl {wa ra : Addr} (H : Hp) : Bx wa ra H H := fun _ _ h _ _ => h
theorem Bx.trans {wa ra : Addr} {H1 H2 H3 : Hp} (x : Bx wa ra H1 H2) (y : Bx wa ra H2 H3) : Bx wa ra H1 H3 := fun a o h h1 h2 => y a o (x a o h h1 h2) h1 h2
theorem Bx.same {wa ra : Addr} {H H' : Hp} (s : Same H H') : Bx wa ra H H' := fun a o h _ _ => s a o h
theorem Bx.im {wa ra : Addr} {H H' : Hp} {W R : List (Key × V)} (x : Bx wa ra H H') (hw : H wa = some (.dK W)) (hr : H ra = some (.dK R)) : Im H H' :=
  ⟨fun b xs h => x b _ h (ne_of h hw (by intro z; cases z)) (ne_of h hr (by intro z; cases z)), fun b o u h => x b _ h (ne_of h hw (by intro z; cases z)) (ne_of h hr (by intro z; cases z))⟩
theorem LoSt.same {H H' : Hp} {p t : Addr} {tr : Tr} {sg : Int} {wa ra : Addr} {wf : Int → Option Int} {rf : Int → Option (Int × List Int)} (h : LoSt K H p t tr sg wa ra wf rf) (s : Same H H') : LoSt K H' p t tr sg wa ra wf rf := by
  obtain ⟨⟨dx, h1⟩, ⟨W, h2, h3⟩, ⟨R, h4, h5⟩, h6, h7⟩ := h
  exact ⟨⟨dx, s _ _ h1⟩, ⟨W, s _ _ h2, h3⟩, ⟨R, s _ _ h4, h5.im (Im.same s)⟩, h6, h7.same s⟩
def rLo_told (K : PySem.W.Frag) : V → Hp → VK → Prop := fun x H Q => ∃ p t tr sg wa ra wf rf, x = .ref p ∧ LoSt K H p t tr sg wa ra wf rf ∧ Q (.ref t) H
def rLo_sign (K : PySem.W.Frag) : V → Hp → VK → Prop := fun x H Q => ∃ p t tr sg wa ra wf rf, x = .ref p ∧ LoSt K H p t tr sg wa ra wf rf ∧ Q (.int sg) H
def rLo_floor (K : PySem.W.Frag) : V → Hp → VK → Prop := fun x H Q => ∃ p t tr sg wa ra wf rf, x = .ref p ∧ LoSt K H p t tr sg wa ra wf rf ∧ Q (.bl false) H
def rLo_worths (K : PySem.W.Frag) : V → Hp → VK → Prop := fun x H Q => ∃ p t tr sg wa ra wf rf, x = .ref p ∧ LoSt K H p t tr sg wa ra wf rf ∧ Q (.ref wa) H
def rLo_runs (K : PySem.W.Frag) : V → Hp → VK → Prop := fun x H Q => ∃ p t tr sg wa ra wf rf, x = .ref p ∧ LoSt K H p t tr sg wa ra wf rf ∧ Q (.ref ra) H
section
variable {X : Cx} {e : Expr} {pos : Pos} {ta : TE}
theorem pe_lo_translator_told (c : Cn K mg) (he : PE X e ta) (hb : attributeBase e "translator_told" X.env (eval e X.env) = eval e X.env := by rfl) (hK : X.K = K := by rfl) : PE X (.Attribute e "translator_told" pos) (tAp ta (rLo_told K)) :=
  fldA K he hb (fun x H Q ⟨p, t, tr, sg, wa, ra, wf, rf, e, ⟨⟨dx, h1⟩, _, _, _, _⟩, q⟩ => ⟨p, _, dx, _, _, e, h1, cl_Longest c, n_Longest_translator_told c, rfl, q⟩) hK
theorem pe_lo_sign (c : Cn K mg) (he : PE X e ta) (hb : attributeBase e "sign" X.env (eval e X.env) = eval e X.env := by rfl) (hK : X.K = K := by rfl) : PE X (.Attribute e "sign" pos) (tAp ta (rLo_sign K)) :=
  fldA K he hb (fun x H Q ⟨p, t, tr, sg, wa, ra, wf, rf, e, ⟨⟨dx, h1⟩, _, _, _, _⟩, q⟩ => ⟨p, _, dx, _, _, e, h1, cl_Longest c, n_Longest_sign c, rfl, q⟩) hK
theorem pe_lo_has_floor (c : Cn K mg) (he : PE X e ta) (hb : attributeBase e "has_floor" X.env (eval e X.env) = eval e X.env := by rfl) (hK : X.K = K := by rfl) : PE X (.Attribute e "has_floor" pos) (tAp ta (rLo_floor K)) :=
  fldA K he hb (fun x H Q ⟨p, t, tr, sg, wa, ra, wf, rf, e, ⟨⟨dx, h1⟩, _, _, _, _⟩, q⟩ => ⟨p, _, dx, _, _, e, h1, cl_Longest c, n_Longest_has_floor c, rfl, q⟩) hK
theorem pe_lo_worths (c : Cn K mg) (he : PE X e ta) (hb : attributeBase e "worths" X.env (eval e X.env) = eval e X.env := by rfl) (hK : X.K = K := by rfl) : PE X (.Attribute e "worths" pos) (tAp ta (rLo_worths K)) :=
  fldA K he hb (fun x H Q ⟨p, t, tr, sg, wa, ra, wf, rf, e, ⟨⟨dx, h1⟩, _, _, _, _⟩, q⟩ => ⟨p, _, dx, _, _, e, h1, cl_Longest c, n_Longest_worths c, rfl, q⟩) hK
theorem pe_lo_runs (c : Cn K mg) (he : PE X e ta) (hb : attributeBase e "runs" X.env (eval e X.env) = eval e X.env := by rfl) (hK : X.K = K := by rfl) : PE X (.Attribute e "runs" pos) (tAp ta (rLo_runs K)) :=
  fldA K he hb (fun x H Q ⟨p, t, tr, sg, wa, ra, wf, rf, e, ⟨⟨dx, h1⟩, _, _, _, _⟩, q⟩ => ⟨p, _, dx, _, _, e, h1, cl_Longest c, n_Longest_runs c, rfl, q⟩) hK
end
def N_Longest_take : List Str := ["self", "state", "worth", "run"]
theorem sc_Longest_take : FnScope N_Longest_take ["self", "state", "worth", "run"] (defScope s_Longest_take) := ⟨rfl, rfl, rfl, by decide +kernel, rfl, by decide +kernel, by decide +kernel⟩
def sp_Longest_take (K : PySem.W.Frag) : Sp := fun vs H Q _ => ∃ (p t : Addr) (tr : Tr) (sg : Int) (wa ra : Addr) (wf : Int → Option Int) (rf : Int → Option (Int × List Int)) (s wv : Int) (r : Addr) (b : Int) (ns : List Int), vs = [.ref p, .int s, .int wv, .ref r] ∧ LoSt K H p t tr sg wa ra wf rf ∧ s ∈ tr.us ∧ RunAt K H r b ns ∧
  (∀ v, wf s = some v → wv ≤ v → Q (.bl false) H) ∧ ((∀ v, wf s = some v → v < wv) → ∀ H', LoSt K H' p t tr sg wa ra (setF wf s wv) (setF rf s (b, ns)) → Bx wa ra H H' → Q (.bl true) H')
theorem M_Longest_take (c : Cn K mg) : Met P w K mg base 1 (He.ga K "Longest") "take" (sp_Longest_take K) [] := by
  refine mkMet (F_Longest_take c) (cl_Longest c) (me_Longest_take c) sc_Longest_take (fun _ _ _ _ _ _ us hl => match us, hl with | [_, _, _, _], _ => rfl) (fun vs H Q E h => ?_) (fun cdv A outer s H vs Q E hr h => ?_)
  · obtain ⟨p, t, tr, sg, wa, ra, wf, rf, s, wv, r, b, ns, rfl, _⟩ := h
    rfl
  · obtain ⟨p, t, tr, sg, wa, ra, wf, rf, s, wv, r, b, ns, rfl, L, hs, hr', q1, q2⟩ := h
    have hu := hu_of hr
    have L' := L
    obtain ⟨⟨dx, e1⟩, ⟨W, e2, dw⟩, ⟨R, e3, dr⟩, ne, ht⟩ := L'
    refine ⟨_, (pss_cons (ps_if (PW.pt (pw_and (pt_cmp (pc_din hu (pv 1) (pe_lo_worths c (pv 0)))) (pw_and1 (pt_cmpR op_ge (pe_dget hu (pe_lo_worths c (pv 0)) (pv 1) (fun _ _ => rfl)) (pv 2) (nomark _)))))
        (pss_one (ps_ret pe_bl))
        pss_nil)
      (pss_cons (ps_dput hu (pe_lo_worths c (pv 0)) (pv 1) (pv 2) rfl)
      (pss_cons (ps_dput hu (pe_lo_runs c (pv 0)) (pv 1) (pv 3) rfl)
      (pss_one (ps_ret pe_bl))))), ?_⟩
    have npw : p ≠ wa := ne_of e1 e2 (by intro z; cases z)
    have npr : p ≠ ra := ne_of e1 e3 (by intro z; cases z)
    have put : (∀ v, wf s = some v → v < wv) → _ := fun hlt => q2 hlt (upd (upd H wa (.dK (putK W (.inl s) (.int wv)))) ra (.dK (putK R (.inl s) (.ref r)))) (by
      have i1 := im_dk (o := .dK (putK W (.inl s) (.int wv))) e2
      have e3' : upd H wa (.dK (putK W (.inl s) (.int wv))) ra = some (.dK R) := by rw [upd_ne ne.symm]; exact e3
      have i2 := im_dk (o := .dK (putK R (.inl s) (.ref r))) e3'
      refine ⟨⟨dx, by rw [upd_ne npr, upd_ne npw]; exact e1⟩, ⟨_, by rw [upd_ne ne, upd_same], dw.put hs⟩, ⟨_, upd_same, (dr.im (i1.trans i2)).put hs (hr'.im (i1.trans i2))⟩, ne, ht.keep (i1.trans i2) fun C d fs h => ?_⟩
      rw [upd_ne (ne_of h e3 (by intro z; cases z)), upd_ne (ne_of h e2 (by intro z; cases z))]
      exact h) (fun a o h n1 n2 => by rw [upd_ne n2, upd_ne n1]; exact h)
    refine ⟨_, rfl, _, rfl, p, t, tr, sg, wa, ra, wf, rf, rfl, L, wa, _, rfl, DGet.k (k := Sum.inl s) e2, _, rfl, ?_⟩
    rw [dw.get s]
    cases e : wf s with
    | none =>
      have hlt : ∀ v, wf s = some v → v < wv := fun v h => by rw [e] at h; cases h
      show _
      have hw1 : upd H wa (.dK (putK W (.inl s) (.int wv))) wa = some (.dK (putK W (.inl s) (.int wv))) := upd_same
      have e3' : upd H wa (.dK (putK W (.inl s) (.int wv))) ra = some (.dK R) := by rw [upd_ne ne.symm]; exact e3
      have L1 : LoSt K (upd H wa (.dK (putK W (.inl s) (.int wv)))) p t tr sg wa ra (setF wf s wv) rf := by
        have i1 := im_dk (o := .dK (putK W (.inl s) (.int wv))) e2
        refine ⟨⟨dx, by rw [upd_ne npw]; exact e1⟩, ⟨_, hw1, dw.put hs⟩, ⟨_, e3', dr.im i1⟩, ne, ht.keep i1 fun C d fs h => ?_⟩
        rw [upd_ne (ne_of h e2 (by intro z; cases z))]
        exact h
      refine ⟨_, rfl, _, rfl, p, t, tr, sg, wa, ra, wf, rf, rfl, L, _, rfl, wa, _, rfl, DPut.k (k := Sum.inl s) e2 (Nat.lt_of_le_of_lt (Nat.le_trans dw.le ht.ok.ln.2.2) (by decide)), ?_⟩
      refine ⟨_, rfl, _, rfl, p, t, tr, sg, wa, ra, _, _, rfl, L1, _, rfl, ra, _, rfl, DPut.k (k := Sum.inl s) e3' (Nat.lt_of_le_of_lt (Nat.le_trans dr.le ht.ok.ln.2.2) (by decide)), ?_⟩
      exact put hlt
    | some v =>
      refine ⟨_, rfl, p, t, tr, sg, wa, ra, wf, rf, rfl, L, _, rfl, wa, .int v, rfl, ?_, _, rfl, _, _, rfl, rfl, _, rfl, ?_⟩
      · have g := DGet.k (k := Sum.inl s) e2
        rw [dw.get s, e] at g
        exact g
      refine iteD (fun hv => ?_) (fun hv => ?_)
      · exact q1 v e hv
      · have hlt : ∀ v, wf s = some v → v < wv := fun v' h => by rw [e] at h; cases h; omega
        have hw1 : upd H wa (.dK (putK W (.inl s) (.int wv))) wa = some (.dK (putK W (.inl s) (.int wv))) := upd_same
        have e3' : upd H wa (.dK (putK W (.inl s) (.int wv))) ra = some (.dK R) := by rw [upd_ne ne.symm]; exact e3
        have L1 : LoSt K (upd H wa (.dK (putK W (.inl s) (.int wv)))) p t tr sg wa ra (setF wf s wv) rf := by
          have i1 := im_dk (o := .dK (putK W (.inl s) (.int wv))) e2
          refine ⟨⟨dx, by rw [upd_ne npw]; exact e1⟩, ⟨_, hw1, dw.put hs⟩, ⟨_, e3', dr.im i1⟩, ne, ht.keep i1 fun C d fs h => ?_⟩
          rw [upd_ne (ne_of h e2 (by intro z; cases z))]
          exact h
        refine ⟨_, rfl, _, rfl, p, t, tr, sg, wa, ra, wf, rf, rfl, L, _, rfl, wa, _, rfl, DPut.k (k := Sum.inl s) e2 (Nat.lt_of_le_of_lt (Nat.le_trans dw.le ht.ok.ln.2.2) (by decide)), ?_⟩
        refine ⟨_, rfl, _, rfl, p, t, tr, sg, wa, ra, _, _, rfl, L1, _, rfl, ra, _, rfl, DPut.k (k := Sum.inl s) e3' (Nat.lt_of_le_of_lt (Nat.le_trans dr.le ht.ok.ln.2.2) (by decide)), ?_⟩
        exact put hlt
end
end K86
end
section
set_option maxHeartbeats 4000000
namespace K86
open PySem PySem.Spec PyProof.Rows L2
open C8 (Cal Met Mak pe_c pe_mk pe_mt pe_mt0)
section
variable {P : Program} {w : World} {K : PySem.W.Frag} {mg : Str → Option Value} {base : Heap}
theorem usefulM_at {tr : Tr} {j : Nat} {row : List Int} (h : (usefulM tr)[j]? = some row) : ∃ (i : Nat) (m : Mv), tr.ms[i]? = some m ∧ m.s ∈ tr.us ∧ m.t ∈ tr.us ∧ row = [(i : Int), m.s, (m.w.length : Int) - 1, m.t] := by
  have h' := List.mem_of_getElem? h
  unfold usefulM at h'
  obtain ⟨⟨m, i⟩, h1, h2⟩ := List.mem_map.mp h'
  obtain ⟨h3, h4⟩ := List.mem_filter.mp h1
  have h5 := of_decide_eq_true h4
  exact ⟨i, m, List.mem_zipIdx_iff_getElem?.mp h3, h5.1, h5.2, h2.symm⟩
theorem usefulM_has {tr : Tr} {i : Nat} {m : Mv} (h : tr.ms[i]? = some m) (h1 : m.s ∈ tr.us) (h2 : m.t ∈ tr.us) : [(i : Int), m.s, (m.w.length : Int) - 1, m.t] ∈ usefulM tr := by
  unfold usefulM
  refine List.mem_map.mpr ⟨(m, i), List.mem_filter.mpr ⟨List.mem_zipIdx_iff_getElem?.mpr h, decide_eq_true ⟨h1, h2⟩⟩, rfl⟩
theorem usefulM_len {tr : Tr} (ok : TrOk tr) : (usefulM tr).length ≤ 9 := by
  unfold usefulM
  rw [List.length_map]
  have := List.length_filter_le (fun p : Mv × Nat => decide (p.1.s ∈ tr.us ∧ p.1.t ∈ tr.us)) tr.ms.zipIdx
  rw [List.length_zipIdx] at this
  have := ok.ln.2.1
  omega
theorem usefulB_at {tr : Tr} {j : Nat} {row : List Int} (h : (usefulB tr)[j]? = some row) : ∃ (i : Nat) (g : Bg), tr.bs[i]? = some g ∧ g.s ∈ tr.us ∧ row = [(i : Int), g.s, (g.w.length : Int)] := by
  have h' := List.mem_of_getElem? h
  unfold usefulB at h'
  obtain ⟨⟨m, i⟩, h1, h2⟩ := List.mem_map.mp h'
  obtain ⟨h3, h4⟩ := List.mem_filter.mp h1
  exact ⟨i, m, List.mem_zipIdx_iff_getElem?.mp h3, of_decide_eq_true h4, h2.symm⟩
theorem usefulB_has {tr : Tr} {i : Nat} {g : Bg} (h : tr.bs[i]? = some g) (h1 : g.s ∈ tr.us) : [(i : Int), g.s, (g.w.length : Int)] ∈ usefulB tr := by
  unfold usefulB
  refine List.mem_map.mpr ⟨(g, i), List.mem_filter.mpr ⟨List.mem_zipIdx_iff_getElem?.mpr h, decide_eq_true h1⟩, rfl⟩
/-- no useful move leads further -/
def Fix (tr : Tr) (sg : Int) (wf : Int → Option Int) : Prop := ∀ m ∈ tr.ms, m.s ∈ tr.us → m.t ∈ tr.us → ∀ v, wf m.s = some v → ∃ v', wf m.t = some v' ∧ v + sg * ((m.w.length : Int) - 1) ≤ v'
def Begun (tr : Tr) (sg : Int) (wf : Int → Option Int) : Prop := ∀ g ∈ tr.bs, g.s ∈ tr.us → ∃ v, wf g.s = some v ∧ sg * (g.w.length : Int) ≤ v
theorem Begun.up {tr : Tr} {sg : Int} {wf wf' : Int → Option Int} (b : Begun tr sg wf) (u : Up wf wf') : Begun tr sg wf' := fun g h1 h2 => by
  obtain ⟨v, h3, h4⟩ := b g h1 h2
  obtain ⟨v', h5, h6⟩ := u _ _ h3
  exact ⟨v', h5, by omega⟩
def N_Longest_init : List Str := ["self", "translator", "sign", "has_floor"]
theorem sc_Longest_init : FnScope N_Longest_init ["self", "translator", "sign", "has_floor"] (defScope s_Longest_init) := ⟨rfl, rfl, rfl, by decide +kernel, rfl, by decide +kernel, by decide +kernel⟩
def sp_Longest_init (K : PySem.W.Frag) : Sp := fun vs H Q _ => ∃ (p t dx : Addr) (tr : Tr) (sg : Int), vs = [.ref p, .ref t, .int sg, .bl false] ∧ H p = some (.ins (aLo K) dx []) ∧ TrAt K H t tr ∧ ∀ H' wa ra, (∀ a o, H a = some o → a ≠ p → H' a = some o) → LoSt K H' p t tr sg wa ra (fun _ => none) (fun _ => none) → H wa = none → H ra = none → Q .non H'
theorem K_Longest (c : Cn K mg) : Mak P w K mg base 1 "Longest" (He.ga K "Longest") (sp_Longest_init K) [] := by
  refine mkMak (F_Longest_init c) (mk_Longest c) (g_Longest c) sc_Longest_init (fun _ _ _ _ _ _ us hl => match us, hl with | [_, _, _, _], _ => rfl) (fun vs H Q E h => ?_) (fun cdv A outer s H vs Q E hr h => ?_)
  · obtain ⟨p, t, dx, tr, sg, rfl, _⟩ := h
    rfl
  · obtain ⟨p, t, dx, tr, sg, rfl, hp, ht, q⟩ := h
    refine ⟨_, (pss_cons (ps_fld (pv 0) (pv 1) rfl)
      (pss_cons (ps_fld (pv 0) (pv 2) rfl)
      (pss_cons (ps_fld (pv 0) (pv 3) rfl)
      (pss_cons (ps_fld (pv 0) pe_dnewK rfl)
      (pss_one (ps_fld (pv 0) pe_dnewK rfl)))))), ?_⟩
    have cl := cl_Longest c
    refine ⟨_, rfl, _, rfl, p, _, dx, _, rfl, hp, cl, n_Longest_translator_told c, (by decide), ?_⟩
    refine ⟨_, rfl, _, rfl, p, _, dx, _, rfl, upd_same, cl, n_Longest_sign c, (by show 1 < 1000; decide), ?_⟩
    refine ⟨_, rfl, _, rfl, p, _, dx, _, rfl, upd_same, cl, n_Longest_has_floor c, (by show 2 < 1000; decide), ?_⟩
    rw [upd_upd, upd_upd]
    intro wa hwa
    have npw : p ≠ wa := ne_of_none upd_same hwa
    have hwa0 : H wa = none := by rw [upd_ne npw.symm] at hwa; exact hwa
    refine ⟨_, rfl, p, _, dx, _, rfl, (by rw [upd_ne npw]; exact upd_same), cl, n_Longest_worths c, (by show 3 < 1000; decide), ?_⟩
    intro ra hra
    have npr : p ≠ ra := ne_of_none upd_same hra
    have nwr : wa ≠ ra := ne_of_none (by rw [upd_ne npw.symm]; exact upd_same) hra
    have hra0 : H ra = none := by rw [upd_ne npr.symm, upd_ne nwr.symm, upd_ne npr.symm] at hra; exact hra
    refine ⟨_, rfl, p, _, dx, _, rfl, (by rw [upd_ne npr]; exact upd_same), cl, n_Longest_runs c, (by show 4 < 1000; decide), ?_⟩
    refine q _ wa ra (fun a o h n => ?_) ⟨⟨dx, upd_same⟩, ⟨[], ?_, ⟨by simp, fun kv h => (nomatch h), fun s => rfl⟩⟩, ⟨[], ?_, ⟨by simp, fun kv h => (nomatch h), fun s h => rfl, fun s b ns h => (nomatch h)⟩⟩, nwr, ?_⟩ hwa0 hra0
    · rw [upd_ne n, upd_ne (ne_of_none h hra0), upd_ne n, upd_ne (ne_of_none h hwa0), upd_ne n]
      exact h
    · rw [upd_ne npw.symm, upd_ne nwr, upd_ne npw.symm]
      exact upd_same
    · rw [upd_ne npr.symm]
      exact upd_same
    · have keep : ∀ a o, H a = some o → a ≠ p → (upd (upd (upd (upd (upd H p (.ins (aLo K) dx (putF "has_floor" (.bl false) (putF "sign" (.int sg) (putF "translator_told" (.ref t) []))))) wa (.dK [])) p (.ins (aLo K) dx (putF "worths" (.ref wa) (putF "has_floor" (.bl false) (putF "sign" (.int sg) (putF "translator_told" (.ref t) [])))))) ra (.dK [])) p (.ins (aLo K) dx (loF t sg wa ra))) a = some o := fun a o h n => by
        rw [upd_ne n, upd_ne (ne_of_none h hra0), upd_ne n, upd_ne (ne_of_none h hwa0), upd_ne n]
        exact h
      refine ht.keep ⟨fun b xs h => keep b _ h (ne_of h hp (by intro z; cases z)), fun b o u h => keep b _ h (ne_of h hp (by intro z; cases z))⟩ fun C d fs h => keep t _ h ?_
      intro e
      subst e
      obtain ⟨⟨dx', b, m, e', u, L, bv, mv, ev, h1, _⟩, _⟩ := ht
      rw [hp] at h1
      injection h1 with h1
      injection h1 with _ _ h3
      unfold trF at h3
      cases h3
def N_Longest_step : List Str := ["self", "grown", "index", "state", "lead", "target", "worth", "run"]
theorem sc_Longest_step : FnScope N_Longest_step ["self"] (defScope s_Longest_step) := ⟨rfl, rfl, rfl, by decide +kernel, rfl, by decide +kernel, by decide +kernel⟩
def sp_Longest_step (K : PySem.W.Frag) : Sp := fun vs H Q _ => ∃ (p t : Addr) (tr : Tr) (sg : Int) (wa ra : Addr) (wf : Int → Option Int) (rf : Int → Option (Int × List Int)) (L : Nat), vs = [.ref p] ∧ LoSt K H p t tr sg wa ra wf rf ∧ LInv tr sg L wf rf ∧ (sg = 1 ∨ sg = -1) ∧ L ≤ 50000 ∧
  (Fix tr sg wf → ∀ H', LoSt K H' p t tr sg wa ra wf rf → Bx wa ra H H' → Q .non H') ∧
  (∀ H' wf' rf' r b ns z v, LoSt K H' p t tr sg wa ra wf' rf' → LInv tr sg (L + 9) wf' rf' → Up wf wf' → z ∈ tr.us → wf' z = some v → rf' z = some (b, ns) → (∀ v0, wf z = some v0 → v0 < v) → RunAt K H' r b ns → Bx wa ra H H' → Q (.ref r) H')
theorem M_Longest_step (c : Cn K mg) : Met P w K mg base 2 (He.ga K "Longest") "step" (sp_Longest_step K) [] := by
  refine mkMet (F_Longest_step c) (cl_Longest c) (me_Longest_step c) sc_Longest_step (fun _ _ _ _ _ _ us hl => match us, hl with | [_], _ => rfl) (fun vs H Q E h => ?_) (fun cdv A outer s H vs Q E hr h => ?_)
  · obtain ⟨p, t, tr, sg, wa, ra, wf, rf, L, rfl, _⟩ := h
    rfl
  · obtain ⟨p, t, tr, sg, wa, ra, wf, rf, L, rfl, hL, hI, hsg, hl, q1, q2⟩ := h
    have hu := hu_of hr
    have ok := hL.tr.ok
    have h64 : ∀ x : Int, -9 ≤ x → x ≤ 9 → -(2 ^ 64) < x ∧ x < 2 ^ 64 := fun x h1 h2 => by constructor <;> omega
    refine ⟨_, (pss_cons (ps_set (i := 1) sc_Longest_step.nd rfl (.inl rfl) pe_non)
      (pss_cons (ps_for PassesOwn.never rfl (piL K (pe_c (C_useful_moves c) hr (by decide) rfl (pa_cons (pe_lo_translator_told c (pv 0)) pa_nil))) (pgT K (n := 4) rfl (pgs_cons (pg_name (i := 2) sc_Longest_step.nd rfl (.inl rfl)) (pgs_cons (pg_name (i := 3) sc_Longest_step.nd rfl (.inl rfl)) (pgs_cons (pg_name (i := 4) sc_Longest_step.nd rfl (.inl rfl)) (pgs_cons (pg_name (i := 5) sc_Longest_step.nd rfl (.inl rfl)) pgs_nil)))))
        (pss_one (ps_if (pt_cmp (pc_din hu (pv 3) (pe_lo_worths c (pv 0))))
          (pss_cons (ps_set (i := 6) sc_Longest_step.nd rfl (.inl rfl) (pe_op op_add (pe_dget hu (pe_lo_worths c (pv 0)) (pv 3) (fun _ _ => rfl)) (pe_op op_mul (pe_lo_sign c (pv 0)) (pv 4))))
          (pss_cons (ps_set (i := 7) sc_Longest_step.nd rfl (.inl rfl) (pe_tup (pa_cons (pe_ix (ixT K) (pe_dget hu (pe_lo_runs c (pv 0)) (pv 3) (fun _ _ => rfl)) pe_int (fun _ _ => rfl)) (pa_cons (pe_tup (StX.pa_star (pe_ix (ixT K) (pe_dget hu (pe_lo_runs c (pv 0)) (pv 3) (fun _ _ => rfl)) pe_int (fun _ _ => rfl)) (pa_cons (pv 2) pa_nil))) pa_nil))))
          (pss_one (ps_if (pt_val (pe_mt (M_Longest_take c) hr (by decide) (pv 0) (pa_cons (pv 5) (pa_cons (pe_ifExp (pt_val (pe_lo_has_floor c (pv 0))) (pe_callB (call_max2 rfl) (by rfl) (m_max c) (by decide +kernel) (pa_cons (pv 6) (pa_cons pe_int pa_nil))) (pv 6)) (pa_cons (pv 7) pa_nil)))))
            (pss_one (ps_set (i := 1) sc_Longest_step.nd rfl (.inl rfl) (pv 7)))
            pss_nil))))
          pss_nil)))
      (pss_one (ps_ret (pv 1))))), ?_⟩
    refine ⟨_, rfl, p, t, tr, sg, wa, ra, wf, rf, rfl, hL, t, tr, rfl, hL.tr, fun H1 D ws s1 hD hD1 hws => ?_⟩
    have hL1 := hL.same s1
    have nDw : D ≠ wa := fun e => by obtain ⟨W, e2, _⟩ := hL.wo; rw [e, e2] at hD; cases hD
    have nDr : D ≠ ra := fun e => by obtain ⟨W, e2, _⟩ := hL.ru; rw [e, e2] at hD; cases hD
    refine ⟨D, rfl, ⟨_, SqL.of hD1⟩, for_list (K := K) (a := D) (xs := ws) (fun j σ H' => ∃ wf' rf' g x2 x3 x4 x5 x6 x7, σ = [some (.ref p), some g, x2, x3, x4, x5, x6, x7] ∧ LoSt K H' p t tr sg wa ra wf' rf' ∧ LInv tr sg (L + j) wf' rf' ∧ Up wf wf' ∧ Bx wa ra H1 H' ∧
        ((g = .non ∧ wf' = wf ∧ rf' = rf ∧ ∀ (j' i : Nat) (m : Mv), j' < j → (usefulM tr)[j']? = some [(i : Int), m.s, (m.w.length : Int) - 1, m.t] → ∀ v, wf m.s = some v → ∃ v', wf m.t = some v' ∧ v + sg * ((m.w.length : Int) - 1) ≤ v') ∨
         ∃ r b ns z v, g = .ref r ∧ z ∈ tr.us ∧ wf' z = some v ∧ rf' z = some (b, ns) ∧ (∀ v0, wf z = some v0 → v0 < v) ∧ RunAt K H' r b ns))
      ⟨wf, rf, .non, _, _, _, _, _, _, rfl, hL1, hI, Up.refl _, Bx.refl _, .inl ⟨rfl, rfl, rfl, fun j' i m h => by omega⟩⟩ (fun i σ H' _ h => by
        obtain ⟨wf', rf', g, x2, x3, x4, x5, x6, x7, _, _, _, _, bx, _⟩ := h
        exact SqL.of (bx _ _ hD1 nDw nDr)) ?_ ?_⟩
    · rintro j x σ H2 hj ⟨wf', rf', g, x2, x3, x4, x5, x6, x7, rfl, hL2, hI2, up2, bx2, hg⟩
      obtain ⟨row, a, hrow, rfl, hsq⟩ := hws.get hj
      obtain ⟨i, m, hm, hs, htt, rfl⟩ := usefulM_at hrow
      have hm' : tr.ms[((i : Nat) : Int).toNat]? = some m := by rw [Int.toNat_natCast]; exact hm
      have w9 := ok.mw m (List.mem_of_getElem? hm)
      obtain ⟨W1, ew1, dw1⟩ := hL1.wo
      obtain ⟨R1, er1, dr1⟩ := hL1.ru
      have im2 := bx2.im ew1 er1
      have hsq2 := im2.sq hsq
      obtain ⟨W, ew, dw⟩ := hL2.wo
      obtain ⟨R, er, dr⟩ := hL2.ru
      have jl : j < 9 := by
        have := (List.getElem?_eq_some_iff.mp hrow).1
        have := usefulM_len ok
        omega
      refine ⟨a, _, rfl, hsq2, rfl, _, _, rfl, _, _, rfl, _, _, rfl, _, _, rfl, rfl, ?_⟩
      refine ⟨_, rfl, _, rfl, p, t, tr, sg, wa, ra, wf', rf', rfl, hL2, wa, _, rfl, DGet.k (k := Sum.inl m.s) ew, _, rfl, ?_⟩
      rw [dw.get m.s]
      -- nothing was taken at this row
      have idle : (∀ v, wf' m.s = some v → ∃ v', wf' m.t = some v' ∧ v + sg * ((m.w.length : Int) - 1) ≤ v') → ∀ (H3 : Hp) (σ3 : L2.St), (∃ y2 y3 y4 y5 y6 y7, σ3 = [some (V.ref p), some g, y2, y3, y4, y5, y6, y7]) → Same H2 H3 → _ := fun hfix H3 σ3 hσ s3 => (show ∃ wf' rf' g x2 x3 x4 x5 x6 x7, σ3 = [some (.ref p), some g, x2, x3, x4, x5, x6, x7] ∧ LoSt K H3 p t tr sg wa ra wf' rf' ∧ LInv tr sg (L + (j + 1)) wf' rf' ∧ Up wf wf' ∧ Bx wa ra H1 H3 ∧
        ((g = .non ∧ wf' = wf ∧ rf' = rf ∧ ∀ (j' i : Nat) (m : Mv), j' < j + 1 → (usefulM tr)[j']? = some [(i : Int), m.s, (m.w.length : Int) - 1, m.t] → ∀ v, wf m.s = some v → ∃ v', wf m.t = some v' ∧ v + sg * ((m.w.length : Int) - 1) ≤ v') ∨
         ∃ r b ns z v, g = .ref r ∧ z ∈ tr.us ∧ wf' z = some v ∧ rf' z = some (b, ns) ∧ (∀ v0, wf z = some v0 → v0 < v) ∧ RunAt K H3 r b ns) from by
          obtain ⟨y2, y3, y4, y5, y6, y7, rfl⟩ := hσ
          refine ⟨wf', rf', g, y2, y3, y4, y5, y6, y7, rfl, hL2.same s3, hI2.wide (by omega), up2, bx2.trans (Bx.same s3), ?_⟩
          rcases hg with ⟨e1, e2, e3, e4⟩ | ⟨r, b, ns, z, v, e1, e2, e3, e4, e5, e6⟩
          · refine .inl ⟨e1, e2, e3, fun j' i' m' hj' hr' v hv => ?_⟩
            by_cases hjj : j' < j
            · exact e4 j' i' m' hjj hr' v hv
            · have ej : j' = j := by omega
              subst ej
              rw [hrow] at hr'
              have e9 := Option.some.inj hr'
              injection e9 with _ e9
              injection e9 with a1 e9
              injection e9 with a2 e9
              injection e9 with a3 _
              rw [← a1] at hv
              rw [← a2, ← a3, ← e2]
              exact hfix v (by rw [e2]; exact hv)
          · exact .inr ⟨r, b, ns, z, v, e1, e2, e3, e4, e5, e6.im (Im.same s3)⟩)
      cases ev : wf' m.s with
      | none =>
        exact iteF (idle (fun v h => by rw [ev] at h; cases h) H2 _ ⟨_, _, _, _, _, _, rfl⟩ (Same.refl _))
      | some v =>
        obtain ⟨b, ns, g0, hrf, hk⟩ := hI2.run m.s v ev
        obtain ⟨r0, hr0, hra0⟩ := dr.get _ _ _ hrf
        obtain ⟨pa, hp1, hp2⟩ := hra0.ex
        have gw : DGet H2 wa (kV (.inl m.s)) (some (.int v)) := by
          have g := DGet.k (k := Sum.inl m.s) ew
          rw [dw.get m.s, ev] at g
          exact g
        have gr : DGet H2 ra (kV (.inl m.s)) (some (.ref r0)) := by
          have g := DGet.k (k := Sum.inl m.s) er
          rw [hr0] at g
          exact g
        refine ⟨_, rfl, p, t, tr, sg, wa, ra, wf', rf', rfl, hL2, _, rfl, wa, _, rfl, gw, _, rfl, p, t, tr, sg, wa, ra, wf', rf', rfl, hL2, _, rfl, _, _, rfl, rfl, .inl (by rcases hsg with rfl | rfl <;> decide), _, _, rfl, rfl, ?_⟩
        refine ⟨_, rfl, p, t, tr, sg, wa, ra, wf', rf', rfl, hL2, _, rfl, ra, _, rfl, gr, _, _, _, _, rfl, rfl, hp1, rfl, ?_⟩
        refine ⟨_, rfl, p, t, tr, sg, wa, ra, wf', rf', rfl, hL2, _, rfl, ra, _, rfl, gr, _, _, _, _, rfl, rfl, hp1, rfl, pa, nums ns, rfl, .inl hp2, _, rfl, ?_⟩
        have ln := hk.ln
        refine ⟨(by show (nums ns ++ [V.int (i : Nat)]).length ≤ sizeLine; rw [List.length_append, nums_len]; exact big' (by simp; omega)), fun q1' hq1 => ?_⟩
        have s3 : Same H2 (upd H2 q1' (.tup (nums ns ++ [V.int (i : Nat)]))) := same_new hq1
        have d3 : upd H2 q1' (.tup (nums ns ++ [V.int (i : Nat)])) q1' = some (.tup (nums (ns ++ [(i : Int)]))) := by rw [upd_same, nums_snoc]
        generalize upd H2 q1' (.tup (nums ns ++ [V.int (i : Nat)])) = H3 at s3 d3
        refine ⟨(by show 2 ≤ sizeLine; decide), fun q2' hq2 => ?_⟩
        have s4 : Same H3 (upd H3 q2' (.tup [.int b, .ref q1'])) := same_new hq2
        have d4 : upd H3 q2' (.tup [.int b, .ref q1']) q2' = some (.tup [.int b, .ref q1']) := upd_same
        generalize upd H3 q2' (.tup [.int b, .ref q1']) = H4 at s4 d4
        have s24 := s3.trans s4
        have hL4 := hL2.same s24
        have run4 : RunAt K H4 q2' b (ns ++ [(i : Int)]) := ⟨q1', SqT.of d4, SqT.of (s4 _ _ d3)⟩
        obtain ⟨dx, hin⟩ := hL4.ins
        refine ⟨_, rfl, p, dx, _, rfl, hin, rfl, _, rfl, _, rfl, p, t, tr, sg, wa, ra, wf', rf', rfl, hL4, _, rfl, ?_⟩
        refine ⟨_, rfl, _, rfl, p, t, tr, sg, wa, ra, wf', rf', m.t, v + sg * ((m.w.length : Int) - 1), q2', b, ns ++ [(i : Int)], rfl, hL4, htt, run4, fun v' hv' hle => ?_, fun hlt H5 hL5 bx5 => ?_⟩
        · refine ⟨_, rfl, ?_⟩
          refine iteF ?_
          exact idle (fun v2 h => by rw [ev] at h; cases h; exact ⟨v', hv', hle⟩) H4 _ ⟨_, _, _, _, _, _, rfl⟩ s24
        · refine ⟨_, rfl, _, rfl, ?_⟩
          obtain ⟨W4, ew4, dw4⟩ := hL4.wo
          obtain ⟨R4, er4, dr4⟩ := hL4.ru
          refine ⟨_, _, .ref q2', _, _, _, _, _, _, rfl, hL5, (hI2.move ok hsg (Int.natCast_nonneg i) hm' hs htt ev hrf hk hlt).wide (by omega), up2.trans (up_set hlt), (bx2.trans (Bx.same s24)).trans bx5, .inr ⟨q2', b, ns ++ [(i : Int)], m.t, _, rfl, htt, setF_same, setF_same, fun v0 h0 => ?_, run4.im (bx5.im ew4 er4)⟩⟩
          obtain ⟨v1, h1, h2⟩ := up2 _ _ h0
          have := hlt v1 h1
          omega
    · rintro σ H2 ⟨wf', rf', g, x2, x3, x4, x5, x6, x7, rfl, hL2, hI2, up2, bx2, hg⟩
      have wl : ws.length ≤ 9 := by rw [hws.1]; exact usefulM_len ok
      rcases hg with ⟨rfl, rfl, rfl, e4⟩ | ⟨r, b, ns, z, v, rfl, e2, e3, e4, e5, e6⟩
      · refine ⟨_, rfl, q1 (fun m hm h1 h2 v hv => ?_) _ hL2 ((Bx.same s1).trans bx2)⟩
        obtain ⟨i, hi⟩ := List.mem_iff_getElem?.mp hm
        obtain ⟨j, hj⟩ := List.mem_iff_getElem?.mp (usefulM_has hi h1 h2)
        exact e4 j i m (by rw [hws.1]; exact (List.getElem?_eq_some_iff.mp hj).1) hj v hv
      · exact ⟨_, rfl, q2 _ _ _ _ _ _ _ _ hL2 (hI2.wide (by omega)) up2 e2 e3 e4 e5 e6 ((Bx.same s1).trans bx2)⟩
end
end K86
end
section
set_option maxHeartbeats 4000000
namespace K86
open PySem PySem.Spec PyProof.Rows L2
open C8 (Cal Met Mak pe_c pe_mk pe_mt pe_mt0)
section
variable {P : Program} {w : World} {K : PySem.W.Frag} {mg : Str → Option Value} {base : Heap}
/-- a useful run and a loop behind it that leads on by sg -/
structure Rising (tr : Tr) (sg : Int) (b : Int) (pre lp : List Int) (g : Bg) (u : Int) : Prop where
  b0 : 0 ≤ b
  bg : tr.bs[b.toNat]? = some g
  go : wk tr.ms g.s pre = some u
  ne : lp ≠ []
  back : wk tr.ms u lp = some u
  pos : 0 < sg * pathLead tr lp
  us : ∀ x ∈ trail tr.ms g.s (pre ++ lp), x ∈ tr.us
  ln : pre.length ≤ 50000 ∧ lp.length ≤ 50000
theorem rising_of {tr : Tr} {sg : Int} {L : Nat} {wf : Int → Option Int} {s v b : Int} {ns : List Int} {g : Bg} (h : Kept tr sg L wf s v b ns g) (hl : L ≤ 50000) {k j : Nat} (hkj : k < j) (hj : j ≤ ns.length) (e : (trail tr.ms g.s ns)[k]? = (trail tr.ms g.s ns)[j]?) :
    ∃ u, Rising tr sg b (ns.take k) (seg ns k j) g u := by
  obtain ⟨u, h1, h2⟩ := trail_at h.go (n := k) (by omega)
  obtain ⟨u', h3, h4⟩ := trail_at h.go (n := j) hj
  have eu : u' = u := by rw [← e, h1] at h3; exact (Option.some.inj h3).symm
  subst eu
  have ts := take_seg (ns := ns) (k := k) (j := j) (by omega)
  have ln := h.ln
  refine ⟨u', h.b0, h.bg, h2, fun z => ?_, ?_, h.ps k j hkj hj e, fun x hx => ?_, ?_, ?_⟩
  · have := congrArg List.length z
    unfold seg at this
    rw [List.length_drop, List.length_take] at this
    simp at this
    omega
  · rw [← ts, wk_app, h2] at h4
    exact h4
  · rw [ts, trail_take] at hx
    obtain ⟨n, hn⟩ := List.mem_iff_getElem?.mp (List.mem_of_mem_take hx)
    have nl := (List.getElem?_eq_some_iff.mp hn).1
    rw [trail_len] at nl
    exact (h.pre n x (by omega) hn).1
  · rw [List.length_take]; omega
  · unfold seg; rw [List.length_drop, List.length_take]; omega
theorem not_nodup {α : Type} {l : List α} (h : ¬ l.Nodup) : ∃ k j : Nat, k < j ∧ j < l.length ∧ l[k]? = l[j]? := by
  induction l with
  | nil => exact absurd (by simp) h
  | cons x l ih =>
    by_cases hx : x ∈ l
    · obtain ⟨n, hn⟩ := List.mem_iff_getElem?.mp hx
      have nl := (List.getElem?_eq_some_iff.mp hn).1
      refine ⟨0, n + 1, by omega, by simp; omega, ?_⟩
      rw [List.getElem?_cons_zero, List.getElem?_cons_succ, hn]
    · have h' : ¬ l.Nodup := fun z => h (List.nodup_cons.mpr ⟨hx, z⟩)
      obtain ⟨k, j, h1, h2, h3⟩ := ih h'
      exact ⟨k + 1, j + 1, by omega, by simp; omega, by rw [List.getElem?_cons_succ, List.getElem?_cons_succ, h3]⟩
def N_Longest_follow : List Str := ["self", "grown", "index", "state", "length", "found"]
theorem sc_Longest_follow : FnScope N_Longest_follow ["self"] (defScope s_Longest_follow) := ⟨rfl, rfl, rfl, by decide +kernel, rfl, by decide +kernel, by decide +kernel⟩
def sp_Longest_follow (K : PySem.W.Frag) : Sp := fun vs H Q _ => ∃ (p t : Addr) (tr : Tr) (sg : Int) (wa ra : Addr), vs = [.ref p] ∧ LoSt K H p t tr sg wa ra (fun _ => none) (fun _ => none) ∧ (sg = 1 ∨ sg = -1) ∧
  (∀ H' wf rf L, LoSt K H' p t tr sg wa ra wf rf → LInv tr sg L wf rf → Begun tr sg wf → Fix tr sg wf → Bx wa ra H H' → Q .non H') ∧
  (∀ H' a r q b pre lp g u, Rising tr sg b pre lp g u → SqT K H' a [.ref r, .ref q] → RunAt K H' r b pre → SqT K H' q (nums lp) → Bx wa ra H H' → Q (.ref a) H')
theorem step_mono {vs : List V} {H : Hp} {Q Q' : VK} {E E' : XK} (h : sp_Longest_step K vs H Q E) (m : ∀ v H', Q v H' → Q' v H') : sp_Longest_step K vs H Q' E' := by
  obtain ⟨p, t, tr, sg, wa, ra, wf, rf, L, h1, h2, h3, h4, h5, h6, h7⟩ := h
  exact ⟨p, t, tr, sg, wa, ra, wf, rf, L, h1, h2, h3, h4, h5, fun a b c d => m _ _ (h6 a b c d), fun H' wf' rf' r b ns z v a1 a2 a3 a4 a5 a6 a7 a8 a9 => m _ _ (h7 H' wf' rf' r b ns z v a1 a2 a3 a4 a5 a6 a7 a8 a9)⟩
theorem M_Longest_follow (c : Cn K mg) : Met P w K mg base 3 (He.ga K "Longest") "follow" (sp_Longest_follow K) [] := by
  refine mkMet (F_Longest_follow c) (cl_Longest c) (me_Longest_follow c) sc_Longest_follow (fun _ _ _ _ _ _ us hl => match us, hl with | [_], _ => rfl) (fun vs H Q E h => ?_) (fun cdv A outer s H vs Q E hr h => ?_)
  · obtain ⟨p, t, tr, sg, wa, ra, rfl, _⟩ := h
    rfl
  · obtain ⟨p, t, tr, sg, wa, ra, rfl, hL, hsg, q1, q2⟩ := h
    have hu := hu_of hr
    have ok := hL.tr.ok
    refine ⟨_, (pss_cons (ps_for PassesOwn.never rfl (piL K (pe_c (C_useful_begins c) hr (by decide) rfl (pa_cons (pe_lo_translator_told c (pv 0)) pa_nil))) (pgT K (n := 3) rfl (pgs_cons (pg_name (i := 2) sc_Longest_follow.nd rfl (.inl rfl)) (pgs_cons (pg_name (i := 3) sc_Longest_follow.nd rfl (.inl rfl)) (pgs_cons (pg_name (i := 4) sc_Longest_follow.nd rfl (.inl rfl)) pgs_nil))))
        (pss_one (ps_expr (pe_mt (M_Longest_take c) hr (by decide) (pv 0) (pa_cons (pv 3) (pa_cons (pe_op op_mul (pe_lo_sign c (pv 0)) (pv 4)) (pa_cons (pe_tup (pa_cons (pv 2) (pa_cons (pe_tup pa_nil) pa_nil))) pa_nil)))))))
      (pss_cons (ps_set (i := 1) sc_Longest_follow.nd rfl (.inl rfl) (pe_mt0 (M_Longest_step c) hr (by decide) (pv 0)))
      (pss_cons (ps_while PassesOwn.never (pt_cmpR op_notN (pv 1) pe_non (nomark _))
        (pss_cons (ps_set (i := 5) sc_Longest_follow.nd rfl (.inl rfl) (pe_ifExp (pt_val (pe_lo_has_floor c (pv 0))) pe_non (pe_c (C_loop_in c) hr (by decide) rfl (pa_cons (pe_lo_translator_told c (pv 0)) (pa_cons (pv 1) (pa_cons (pe_lo_sign c (pv 0)) pa_nil))))))
        (pss_cons (ps_if (pt_cmpR op_notN (pv 5) pe_non (nomark _))
          (pss_one (ps_ret (pv 5)))
          pss_nil)
        (pss_one (ps_set (i := 1) sc_Longest_follow.nd rfl (.inl rfl) (pe_mt0 (M_Longest_step c) hr (by decide) (pv 0)))))))
      (pss_one (ps_ret pe_non))))), ?_⟩
    refine ⟨_, rfl, p, t, tr, sg, wa, ra, _, _, rfl, hL, t, tr, rfl, hL.tr, fun H1 D ws s1 hD hD1 hws => ?_⟩
    have hL1 := hL.same s1
    have nDw : D ≠ wa := fun e => by obtain ⟨W, e2, _⟩ := hL.wo; rw [e, e2] at hD; cases hD
    have nDr : D ≠ ra := fun e => by obtain ⟨W, e2, _⟩ := hL.ru; rw [e, e2] at hD; cases hD
    obtain ⟨W1, ew1, dw1⟩ := hL1.wo
    obtain ⟨R1, er1, dr1⟩ := hL1.ru
    refine ⟨D, rfl, ⟨_, SqL.of hD1⟩, for_list (K := K) (a := D) (xs := ws) (fun j σ H' => ∃ wf rf x1 x2 x3 x4 x5, σ = [some (.ref p), x1, x2, x3, x4, x5] ∧ LoSt K H' p t tr sg wa ra wf rf ∧ LInv tr sg 0 wf rf ∧ Bx wa ra H1 H' ∧
        ∀ (j' i : Nat) (g : Bg), j' < j → (usefulB tr)[j']? = some [(i : Int), g.s, (g.w.length : Int)] → ∃ v, wf g.s = some v ∧ sg * (g.w.length : Int) ≤ v)
      ⟨_, _, _, _, _, _, _, rfl, hL1, LInv.zero, Bx.refl _, fun j' i g h => by omega⟩ (fun i σ H' _ h => by
        obtain ⟨wf', rf', x2, x3, x4, x5, x6, _, _, _, bx, _⟩ := h
        exact SqL.of (bx _ _ hD1 nDw nDr)) ?_ ?_⟩
    · rintro j x σ H2 hj ⟨wf, rf, x1, x2, x3, x4, x5, rfl, hL2, hI2, bx2, hb⟩
      obtain ⟨row, a, hrow, rfl, hsq⟩ := hws.get hj
      obtain ⟨i, g, hg, hs, rfl⟩ := usefulB_at hrow
      have hg' : tr.bs[((i : Nat) : Int).toNat]? = some g := by rw [Int.toNat_natCast]; exact hg
      have w9 := ok.bw g (List.mem_of_getElem? hg)
      have im2 := bx2.im ew1 er1
      have hsq2 := im2.sq hsq
      refine ⟨a, _, rfl, hsq2, rfl, _, _, rfl, _, _, rfl, _, _, rfl, rfl, ?_⟩
      obtain ⟨dx, hin⟩ := hL2.ins
      refine ⟨_, rfl, p, dx, _, rfl, hin, rfl, _, rfl, _, rfl, p, t, tr, sg, wa, ra, wf, rf, rfl, hL2, _, rfl, _, _, rfl, rfl, .inl (by rcases hsg with rfl | rfl <;> decide), _, rfl, Nat.zero_le _, fun e he => ?_⟩
      have s3 : Same H2 (upd H2 e (.tup [])) := same_new he
      have d3 : upd H2 e (.tup []) e = some (.tup []) := upd_same
      generalize upd H2 e (.tup []) = H3 at s3 d3
      refine ⟨(by show 2 ≤ sizeLine; decide), fun r hr0 => ?_⟩
      have s4 : Same H3 (upd H3 r (.tup [.int (i : Nat), .ref e])) := same_new hr0
      have d4 : upd H3 r (.tup [.int (i : Nat), .ref e]) r = some (.tup [.int (i : Nat), .ref e]) := upd_same
      generalize upd H3 r (.tup [.int (i : Nat), .ref e]) = H4 at s4 d4
      have s24 := s3.trans s4
      have hL4 := hL2.same s24
      refine ⟨p, t, tr, sg, wa, ra, wf, rf, g.s, sg * (g.w.length : Int), r, (i : Int), [], rfl, hL4, hs, ⟨e, SqT.of d4, SqT.of (s4 _ _ d3)⟩, fun v hv hle => ?_, fun hlt H5 hL5 bx5 => ?_⟩
      · refine ⟨wf, rf, _, _, _, _, _, rfl, hL4, hI2, bx2.trans (Bx.same s24), fun j' i' g' hj' hr' => ?_⟩
        by_cases hjj : j' < j
        · exact hb j' i' g' hjj hr'
        · have ej : j' = j := by omega
          subst ej
          rw [hrow] at hr'
          have e9 := Option.some.inj hr'
          injection e9 with _ e9
          injection e9 with a1 e9
          injection e9 with a2 _
          rw [← a1, ← a2]
          exact ⟨v, hv, hle⟩
      · refine ⟨_, _, _, _, _, _, _, rfl, hL5, hI2.begin ok hsg (Int.natCast_nonneg i) hg' hs hlt, (bx2.trans (Bx.same s24)).trans bx5, fun j' i' g' hj' hr' => ?_⟩
        by_cases hjj : j' < j
        · obtain ⟨v, h1, h2⟩ := hb j' i' g' hjj hr'
          obtain ⟨v', h3, h4⟩ := up_set hlt _ _ h1
          exact ⟨v', h3, by omega⟩
        · have ej : j' = j := by omega
          subst ej
          rw [hrow] at hr'
          have e9 := Option.some.inj hr'
          injection e9 with _ e9
          injection e9 with a1 e9
          injection e9 with a2 _
          rw [← a1, ← a2]
          exact ⟨_, setF_same, Int.le_refl _⟩
    · rintro σ H2 ⟨wf, rf, x1, x2, x3, x4, x5, rfl, hL2, hI2, bx2, hb⟩
      have bg : Begun tr sg wf := fun g hg hgu => by
        obtain ⟨i, hi⟩ := List.mem_iff_getElem?.mp hg
        obtain ⟨j, hj⟩ := List.mem_iff_getElem?.mp (usefulB_has hi hgu)
        exact hb j i g (by rw [hws.1]; exact (List.getElem?_eq_some_iff.mp hj).1) hj
      have bx0 := (Bx.same s1 : Bx wa ra H H1).trans bx2
      obtain ⟨dx, hin⟩ := hL2.ins
      -- the head of the loop
      let Wh : Nat → L2.St → Hp → Prop := fun m σ H' => ∃ wf rf L g x2 x3 x4 x5, σ = [some (.ref p), some g, x2, x3, x4, x5] ∧ LoSt K H' p t tr sg wa ra wf rf ∧ LInv tr sg L wf rf ∧ Begun tr sg wf ∧ Bx wa ra H H' ∧ m ≤ 3700 ∧ L ≤ 9 * (3702 - m) ∧
        ((g = .non ∧ Fix tr sg wf) ∨ ∃ r b ns z v wf0, g = .ref r ∧ z ∈ tr.us ∧ wf z = some v ∧ rf z = some (b, ns) ∧ RunAt K H' r b ns ∧ mu tr.us wf0 < m ∧ Up wf0 wf ∧ (∀ v0, wf0 z = some v0 → v0 < v))
      -- a step, from any head
      have stepTo : ∀ (m m' : Nat) (σ : L2.St) (H3 : Hp) wf rf (L : Nat), (∃ x1 x2 x3 x4 x5, σ = [some (V.ref p), x1, x2, x3, x4, x5]) → LoSt K H3 p t tr sg wa ra wf rf → LInv tr sg L wf rf → Begun tr sg wf → Bx wa ra H H3 → m ≤ 3700 → L ≤ 9 * (3701 - m) → mu tr.us wf < m →
          sp_Longest_step K [.ref p] H3 (fun v H' => ∀ σ', σ' = σ.set 1 (some v) → ∃ k, k ≤ m ∧ Wh k σ' H') (fun _ _ _ => False) := fun m m' σ H3 wf rf L hσ h1 h2 h3 h4 h5 h6 h7 => by
        obtain ⟨x1, x2, x3, x4, x5, rfl⟩ := hσ
        refine ⟨p, t, tr, sg, wa, ra, wf, rf, L, rfl, h1, h2, hsg, by omega, fun fx H4 hL4 bx4 σ' e => ?_, fun H4 wf' rf' r b ns z v hL4 hI4 up hz e1 e2 e3 hrun bx4 σ' e => ?_⟩
        · subst e
          exact ⟨0, Nat.zero_le _, wf, rf, L, .non, _, _, _, _, rfl, hL4, h2, h3, h4.trans bx4, by omega, by omega, .inl ⟨rfl, fx⟩⟩
        · subst e
          exact ⟨m, Nat.le_refl _, wf', rf', L + 9, .ref r, _, _, _, _, rfl, hL4, hI4, h3.up up, h4.trans bx4, h5, by omega, .inr ⟨r, b, ns, z, v, wf, rfl, hz, e1, e2, hrun, h7, up, e3⟩⟩
      have low : ∀ s v, wf s = some v → -81 ≤ v := fun s v h => by
        have := hI2.low s v h
        have := present_le (us := tr.us) (wf := wf)
        have := ok.ln.2.2
        omega
      have mu0 := mu_le (us := tr.us) low
      have := ok.ln.2.2
      refine ⟨_, rfl, p, dx, _, rfl, hin, rfl, ?_⟩
      unfold tNil
      show sp_Longest_step K [.ref p] H2 _ _
      refine step_mono (stepTo 3700 0 [some (.ref p), x1, x2, x3, x4, x5] H2 wf rf 0 ⟨_, _, _, _, _, rfl⟩ hL2 hI2 bg bx0 (Nat.le_refl _) (by omega) (by omega)) fun v H3 hv => ?_
      obtain ⟨k0, _, hk0⟩ := hv _ rfl
      refine ⟨Wh, ⟨k0, hk0⟩, ?_⟩
      rintro m σ H4 ⟨wf1, rf1, L1, g, y2, y3, y4, y5, rfl, hL4, hI4, bg4, bx4, hm, hLm, hg⟩
      obtain ⟨dx4, hin4⟩ := hL4.ins
      refine ⟨_, rfl, rfl, _, rfl, ?_⟩
      rcases hg with ⟨rfl, fx⟩ | ⟨r, b, ns, z, v1, wf0, rfl, hz, e1, e2, hrun, hmu, up, hlt⟩
      · refine ifNT rfl ?_
        exact q1 _ _ _ _ hL4 hI4 bg4 fx bx4
      · refine iteND (fun _ => ?_) (fun h => by cases h)
        obtain ⟨b', ns', g0, e3, kp⟩ := hI4.run z v1 e1
        rw [e2] at e3
        cases e3
        refine ⟨fun σ' H' => ∃ m', m' < m ∧ Wh m' σ' H', fun σ' H' h => h, ?_⟩
        refine ⟨_, rfl, p, t, tr, sg, wa, ra, _, _, rfl, hL4, _, rfl, ?_⟩
        refine iteF ?_
        have kl := kp.ln
        refine ⟨_, rfl, p, t, tr, sg, wa, ra, _, _, rfl, hL4, _, rfl, _, rfl, p, t, tr, sg, wa, ra, _, _, rfl, hL4, t, r, tr, sg, b, ns, z, g0, rfl, hL4.tr, hrun, kp.b0, kp.bg, kp.go, hsg, kp.ps, (by omega), fun nd H5 s5 => ?_, fun k j h1 h2 h3 H5 a r' p' s5 h5 h6 h7 => ?_⟩
        · refine ⟨_, rfl, rfl, _, rfl, ?_⟩
          refine ifNT rfl ?_
          obtain ⟨v99, _⟩ := simple_worth kp ok hsg nd
          have drop := mu_drop hI4 ok up hz e1 hlt v99
          have hL5 := hL4.same s5
          refine ⟨_, rfl, p, dx4, _, rfl, s5 _ _ hin4, rfl, ?_⟩
          show sp_Longest_step K [.ref p] H5 _ _
          refine step_mono (stepTo (m - 1) 0 [some (.ref p), some (.ref r), y2, y3, y4, some .non] H5 wf1 rf1 L1 ⟨_, _, _, _, _, rfl⟩ hL5 hI4 bg4 (bx4.trans (Bx.same s5)) (by omega) (by omega) (by omega)) fun v H6 hv => ?_
          obtain ⟨k0, hk1, hk0⟩ := hv _ rfl
          exact ⟨k0, by omega, hk0⟩
        · refine ⟨_, rfl, rfl, _, rfl, ?_⟩
          refine iteND (fun _ => ?_) (fun h => by cases h)
          obtain ⟨u, ri⟩ := rising_of kp (by omega) h1 h2 h3
          exact ⟨_, rfl, q2 _ _ _ _ _ _ _ _ _ ri h5 h6 h7 (bx4.trans (Bx.same s5))⟩
end
end K86
end
section
set_option maxHeartbeats 4000000
namespace K86
open PySem PySem.Spec PyProof.Rows L2
/-- max(o.values()), a dict with int values, one at least -/
def tMaxVals (td : TE) : TE := fun σ H Q => td σ H fun x H1 => ∃ a kvs is, x = V.ref a ∧ H1 a = some (.dK kvs) ∧ kvs.map (·.2) = is.map V.int ∧ is ≠ [] ∧ ∀ m, m ∈ is → (∀ j ∈ is, j ≤ m) → Q (.int m) H1
section
variable {X : Cx} {o : Expr} {p pos apos mpos : Pos} {td : TE}
theorem pe_maxVals (hc : X.calm = true) (hg : Gl X "max") (hm : X.mg "max" = none) (hd : PE X o td) (hbase : attributeBase o "values" X.env (eval o X.env) = eval o X.env := by rfl) (hline : (apos.endLine == mpos.line) = true := by rfl)
    (hse : starEach [Expr.Call (.Attribute o "values" apos) [] [] mpos] X.env = [(false, eval (Expr.Call (.Attribute o "values" apos) [] [] mpos) X.env)] := by rfl) :
    PE X (.Call (.Name "max" p) [.Call (.Attribute o "values" apos) [] [] mpos] [] pos) (tMaxVals td) := by
  refine ⟨fun pins s σ H Q I h => ?_⟩
  refine wpAny_Call_Name_kw (ld_blt I hg hm (u := .builtin "max") (by first | rfl | decide +kernel) ?_ (by first | decide +kernel | decide) (by first | decide +kernel | decide))
  rw [hse]
  refine PySem.callWith_builtin1 (wpAny_Call_method0_late hbase hline (thn (hd.run pins s σ H _ I h) fun v s1 ⟨x, H1, I1, r1, a, kvs, is, ex, ha, hv, hne, q⟩ => ?_))
  subst ex
  obtain rfl : v = Value.ref a := r1
  obtain ⟨_, hsys, vs, rel, dof⟩ := dk_of I1.hok ha
  obtain ⟨ep, dat⟩ := dof.dictAt
  have dat' := dat
  obtain ⟨ob, es, ho, ex, hdat, hko, hpr, hnd⟩ := dat'
  refine ⟨"dict", "dict.values", F.plainAttrs_dict, F.slot_dict_values, F.type_dict_values, ⟨ob, ho, ex.1⟩, fun b e => ?_, Calls.callWith_builtin rfl (PySem.evalArgs_none ?_)⟩
  · cases e
    exact ⟨ob, ho, ex.2.1⟩
  refine call_meetsIn F.slot_dict_values ⟨ob, ho, ex.1⟩ F.entry_dict_values (F.args_dict_values_1 _) (meets_dict_values (mixKind X.prog X.w) a hsys) ⟨⟨vs, dof⟩, ?_⟩
  have k1 : ∀ b u, s1.heap.get? b = some u → (s1.heap.push { cls := .type "dict_values", data := .fields #[.ref a] }).get? b = some u := fun b u e => Heap.get?_push_of_some _ e
  have dat1 : (s1.heap.push { cls := .type "dict_values", data := .fields #[.ref a] }).DictAt (mixKind X.prog X.w) a vs ep := dat.keep k1
  have hlv : vs.length = is.length := by
    have e1 := congrArg List.length hv
    rw [List.length_map, List.length_map] at e1
    rw [← e1]
    exact (KV.length rel).symm
  have hlen : 0 < vs.length := by
    rw [hlv]
    exact List.length_pos_iff.mpr hne
  have hval : ∀ (i : Nat) (v : Value), (∃ k, vs[i]? = some (k, v)) → ∃ t, v = Value.int (is.getD i 0) t := fun i v ⟨k, hk⟩ => by
    obtain ⟨x, h1, h2⟩ := L2.KV.at' rel hk
    have e1 : (kvs.map (·.2))[i]? = some x := by rw [List.getElem?_map, h1] <;> rfl
    rw [hv, List.getElem?_map] at e1
    obtain ⟨j, hj, e2⟩ := Option.map_eq_some_iff.mp e1
    subst e2
    obtain ⟨t, e3⟩ := h2
    refine ⟨t, ?_⟩
    rw [e3, List.getD_eq_getElem?_getD, hj] <;> rfl
  refine call_max_walk (wpAny_pyIter_values (v := s1.heap.objs.size) (d := a) ⟨_, Heap.get?_push_size _ rfl, rfl, rfl⟩ dat1 ?_)
  have hlt : a < s1.heap.objs.size := Heap.lt_size ho
  have hsz : (s1.heap.push { cls := .type "dict_values", data := .fields #[.ref a] }).objs.size = s1.heap.objs.size + 1 := Heap.size_push _ _
  refine ⟨_, _, _, _, _, _, _, rfl, Walks.dictValues (knd := mixKind X.prog X.w) (A := X.A.in1) (I.ok.hd hc) (s1.heap.push { cls := .type "dict_values", data := .fields #[.ref a] }).objs.size a (by rw [hsz]; exact Nat.ne_of_lt (Nat.lt_succ_of_lt hlt)) vs ep,
    ⟨⟨_, Heap.get?_push_size _ rfl, rfl, rfl⟩, dat1.keep fun b u e => Heap.get?_push_of_some _ e⟩, fun b hb => ?_, hlen, CmpOf.ints_gt (fun i => is.getD i 0) hval, fun v h' tk hP hk => ?_⟩
  · show b < ((s1.heap.push _).push _).objs.size
    rw [Heap.size_push, Heap.size_push]
    rw [hsz] at hb
    rcases List.mem_cons.mp hb with e | hb
    · rw [e]
      exact Nat.lt_succ_self _
    · have e : b = a := List.mem_singleton.mp hb
      rw [e]
      exact Nat.lt_succ_of_lt (Nat.lt_succ_of_lt hlt)
  · obtain ⟨t, rfl⟩ := hval _ v hP
    obtain ⟨b1, b2⟩ := argBest_gt (fun i => is.getD i 0) (vs.length - 1)
    refine ⟨.int _, H1, I1.kept (t' := tk) fun b u e => hk b u (fun hmem => ?_) (Heap.get?_push_of_some _ (k1 b u e)), ⟨t, rfl⟩, q _ ?_ fun j hj => ?_⟩
    · have e1 : b = (s1.heap.push { cls := .type "dict_values", data := .fields #[.ref a] }).objs.size := List.mem_singleton.mp hmem
      have e2 := Heap.lt_size e
      rw [hsz] at e1
      rw [e1] at e2
      exact absurd e2 (Nat.not_lt.mpr (Nat.le_succ _))
    · have hb : argBest (fun i j => decide (is.getD i 0 > is.getD j 0)) (vs.length - 1) < is.length := by omega
      rw [List.getD_eq_getElem?_getD, List.getElem?_eq_getElem hb]
      exact List.getElem_mem hb
    · obtain ⟨i, hi, e⟩ := List.mem_iff_getElem.mp hj
      have e2 : is.getD i 0 = j := by rw [List.getD_eq_getElem?_getD, List.getElem?_eq_getElem hi, ← e] <;> rfl
      rw [← e2]
      exact b2 i (by omega)

end
/-- the pairs of a dict that is locked -/
theorem lc_items {d : Addr} {o : Obj} {kvs : List (Key × V)} {g : TG} {tt : TT} {te : TE} {vs : List Nat} {σ : L2.St} {H1 : Hp} {D : Addr} {Qd : Hp → Prop} (Pv : Nat → Hp → Prop) (h0 : Pv 0 (upd H1 D (.lst []))) (hl : ∀ i H, Pv i H → H d = some (.frz o (.dK kvs)))
    (hs : ∀ i k x T H, kvs[i]? = some (k, x) → Pv i H → H T = none → g (.ref T) (wipe σ vs) (upd H T (.tup [kV k, x])) fun σ2 H2 => wipe σ2 vs = wipe σ vs ∧ tt σ2 H2 fun b H3 =>
      if b = true then te σ2 H3 fun y H4 => ∃ acc, H4 D = some (.lst acc) ∧ acc.length < sizeLine ∧ Pv (i + 1) (upd H4 D (.lst (acc ++ [y]))) else Pv (i + 1) H3) (hd : ∀ H, Pv kvs.length H → Qd H) :
    ∃ W : Nat → Nat → Hp → Prop, (∃ m, W 0 m (upd H1 D (.lst []))) ∧ ∀ i m H, W i m H →
      ((Iti d o kvs).stop i H ∧ Qd H) ∨ ((Iti d o kvs).go i H ∧ ∃ Nx : Hp → Prop, (∀ H', Nx H' → ∃ m', m' < m ∧ W (i + 1) m' H') ∧ ∀ x H', (Iti d o kvs).yld i H x H' → g x (wipe σ vs) H' fun σ2 H2 => wipe σ2 vs = wipe σ vs ∧ tt σ2 H2 fun b H3 =>
        if b = true then te σ2 H3 fun y H4 => ∃ acc, H4 D = some (.lst acc) ∧ acc.length < sizeLine ∧ Nx (upd H4 D (.lst (acc ++ [y]))) else Nx H3) := by
  refine ⟨fun i m H => m = kvs.length - i ∧ i ≤ kvs.length ∧ Pv i H, ⟨kvs.length, by simp, Nat.zero_le _, h0⟩, ?_⟩
  rintro i m H ⟨rfl, hi, p⟩
  have q := hl i H p
  by_cases lt : i < kvs.length
  · refine .inr ⟨⟨q, lt⟩, Pv (i + 1), fun H' p' => ⟨kvs.length - (i + 1), by omega, rfl, lt, p'⟩, fun x H' y => ?_⟩
    obtain ⟨T, k, v, e, rfl, hT, rfl⟩ := y
    exact hs i k v T H e p hT
  · obtain rfl : i = kvs.length := by omega
    exact .inl ⟨⟨q, Nat.le_refl _⟩, hd H p⟩
/-- the keys of a dict that is locked -/
theorem lc_keys {d : Addr} {o : Obj} {kvs : List (Key × V)} {g : TG} {tt : TT} {te : TE} {vs : List Nat} {σ : L2.St} {H1 : Hp} {D : Addr} {Qd : Hp → Prop} (Pv : Nat → Hp → Prop) (h0 : Pv 0 (upd H1 D (.lst []))) (hl : ∀ i H, Pv i H → H d = some (.frz o (.dK kvs)))
    (hs : ∀ i k x H, kvs[i]? = some (k, x) → Pv i H → g (kV k) (wipe σ vs) H fun σ2 H2 => wipe σ2 vs = wipe σ vs ∧ tt σ2 H2 fun b H3 =>
      if b = true then te σ2 H3 fun y H4 => ∃ acc, H4 D = some (.lst acc) ∧ acc.length < sizeLine ∧ Pv (i + 1) (upd H4 D (.lst (acc ++ [y]))) else Pv (i + 1) H3) (hd : ∀ H, Pv kvs.length H → Qd H) :
    ∃ W : Nat → Nat → Hp → Prop, (∃ m, W 0 m (upd H1 D (.lst []))) ∧ ∀ i m H, W i m H →
      ((Itk d o kvs).stop i H ∧ Qd H) ∨ ((Itk d o kvs).go i H ∧ ∃ Nx : Hp → Prop, (∀ H', Nx H' → ∃ m', m' < m ∧ W (i + 1) m' H') ∧ ∀ x H', (Itk d o kvs).yld i H x H' → g x (wipe σ vs) H' fun σ2 H2 => wipe σ2 vs = wipe σ vs ∧ tt σ2 H2 fun b H3 =>
        if b = true then te σ2 H3 fun y H4 => ∃ acc, H4 D = some (.lst acc) ∧ acc.length < sizeLine ∧ Nx (upd H4 D (.lst (acc ++ [y]))) else Nx H3) := by
  refine ⟨fun i m H => m = kvs.length - i ∧ i ≤ kvs.length ∧ Pv i H, ⟨kvs.length, by simp, Nat.zero_le _, h0⟩, ?_⟩
  rintro i m H ⟨rfl, hi, p⟩
  have q := hl i H p
  by_cases lt : i < kvs.length
  · refine .inr ⟨⟨q, lt⟩, Pv (i + 1), fun H' p' => ⟨kvs.length - (i + 1), by omega, rfl, lt, p'⟩, fun x H' y => ?_⟩
    obtain ⟨rfl, k, v, e, rfl⟩ := y
    exact hs i k v _ e p
  · obtain rfl : i = kvs.length := by omega
    exact .inl ⟨⟨q, Nat.le_refl _⟩, hd H p⟩
end K86
end
section
set_option maxHeartbeats 4000000
namespace K86
open PySem PySem.Spec PyProof.Rows L2
open C8 (Cal Met Mak pe_c pe_mk pe_mt pe_mt0)
section
variable {P : Program} {w : World} {K : PySem.W.Frag} {mg : Str → Option Value} {base : Heap}
/-- wf is the table at the end -/
structure Done (tr : Tr) (sg : Int) (wf : Int → Option Int) : Prop where
  inv : ∃ rf L, LInv tr sg L wf rf
  bg : Begun tr sg wf
  fx : Fix tr sg wf
/-- a found loop as it is told: (run, loop) -/
structure RiseAt (K : PySem.W.Frag) (H : Hp) (f : Addr) (b : Int) (pre lp : List Int) : Prop where
  ex : ∃ r q, SqT K H f [.ref r, .ref q] ∧ RunAt K H r b pre ∧ SqT K H q (nums lp)
def sp_most (sg : Int) (ng : Int → Int) (K : PySem.W.Frag) : Sp := fun vs H Q _ => ∃ (t : Addr) (tr : Tr), vs = [.ref t] ∧ TrAt K H t tr ∧
  (∀ H' a d D wf, Same H H' → SqT K H' a [.ref d, .non] → H' d = some (.dK D) → DW tr.us D (fun s => (wf s).map ng) → Done tr sg wf → Q (.ref a) H') ∧
  (∀ H' a f b pre lp g u, Same H H' → SqT K H' a [.non, .ref f] → Rising tr sg b pre lp g u → RiseAt K H' f b pre lp → Q (.ref a) H')
abbrev sp_greatest_leads (K : PySem.W.Frag) : Sp := sp_most 1 (fun x => x) K
abbrev sp_least_leads (K : PySem.W.Frag) : Sp := sp_most (-1) (fun x => -x) K
theorem pairImp {α β : Type} {R S : α → β → Prop} (h : ∀ a b, R a b → S a b) : ∀ {xs : List α} {ys : List β}, Paired R xs ys → Paired S xs ys
  | _, _, .nil => .nil
  | _, _, .cons r t => .cons (h _ _ r) (pairImp h t)
theorem pairApp {α β : Type} {R : α → β → Prop} : ∀ {xs xs' : List α} {ys ys' : List β}, Paired R xs ys → Paired R xs' ys' → Paired R (xs ++ xs') (ys ++ ys')
  | _, _, _, _, .nil, h => h
  | _, _, _, _, .cons r t, h => .cons r (pairApp t h)
def N_greatest_leads : List Str := ["translator", "longest", "found"]
theorem sc_greatest_leads : FnScope N_greatest_leads ["translator"] (defScope s_greatest_leads) := ⟨rfl, rfl, rfl, by decide +kernel, rfl, by decide +kernel, by decide +kernel⟩
theorem C_greatest_leads (c : Cn K mg) : Cal P w K mg base 4 "greatest_leads" (sp_greatest_leads K) [] := by
  refine mkCal (F_greatest_leads c) (g_greatest_leads c) sc_greatest_leads (fun _ _ _ _ _ _ us hl => match us, hl with | [_], _ => rfl) (fun vs H Q E h => ?_) (fun cdv A outer s H vs Q E hr h => ?_)
  · obtain ⟨t, tr, rfl, _⟩ := h
    rfl
  · obtain ⟨t, tr, rfl, ht, q1, q2⟩ := h
    refine ⟨_, (pss_cons (ps_set (i := 1) sc_greatest_leads.nd rfl (.inl rfl) (pe_mk (K_Longest c) hr (by decide) rfl (pa_cons (pv 0) (pa_cons pe_int (pa_cons pe_bl pa_nil)))))
      (pss_cons (ps_set (i := 2) sc_greatest_leads.nd rfl (.inl rfl) (pe_mt0 (M_Longest_follow c) hr (by decide) (pv 1)))
      (pss_one (ps_ret (pe_ifExp (pt_cmpR op_isN (pv 2) pe_non (nomark _)) (pe_tup (pa_cons (pe_lo_worths c (pv 1)) (pa_cons pe_non pa_nil))) (pe_tup (pa_cons pe_non (pa_cons (pv 2) pa_nil)))))))), ?_⟩
    refine ⟨_, rfl, fun x dx nx ndx nex => ?_⟩
    have s0 : Same H (upd (upd H dx (.own x)) x (.ins (aLo K) dx [])) := fun b o e => by
      rw [upd_ne (ne_of_none e nx), upd_ne (ne_of_none e ndx)]
      exact e
    refine ⟨x, t, dx, tr, 1, rfl, upd_same, ht.same s0, fun H1 wa ra fr hL hwa hra => ⟨rfl, ?_⟩⟩
    have hwa0 : H wa = none := s0.free hwa
    have hra0 : H ra = none := s0.free hra
    have s1 : Same H H1 := fun a o e => fr a o (s0 a o e) (ne_of_none e nx)
    obtain ⟨dx1, hin⟩ := hL.ins
    refine ⟨_, rfl, x, dx1, _, rfl, hin, rfl, x, t, tr, 1, wa, ra, rfl, hL, .inl rfl, fun H2 wf rf L hL2 hI bg fx bx => ?_, fun H2 a r q b pre lp g u ri h1 h2 h3 bx => ?_⟩
    · have s2 : Same H H2 := fun a o e => bx a o (s1 a o e) (ne_of_none e hwa0) (ne_of_none e hra0)
      refine ⟨_, rfl, rfl, _, rfl, ?_⟩
      refine ifT rfl ?_
      obtain ⟨W, ew, dw⟩ := hL2.wo
      refine ⟨_, rfl, x, t, tr, 1, wa, ra, wf, rf, rfl, hL2, (by show 2 ≤ sizeLine; decide), fun p hp => ?_⟩
      have sp := same_new (o := .tup [.ref wa, .non]) hp
      exact q1 _ p wa W wf (s2.trans sp) (SqT.of upd_same) (sp _ _ ew) ⟨dw.nd, dw.ks, fun s => by rw [dw.get s]; cases wf s <;> rfl⟩ ⟨⟨rf, L, hI⟩, bg, fx⟩
    · have s2 : Same H H2 := fun a o e => bx a o (s1 a o e) (ne_of_none e hwa0) (ne_of_none e hra0)
      refine ⟨_, rfl, rfl, _, rfl, ?_⟩
      refine ifF (by intro z; cases z) ?_
      refine ⟨_, rfl, (by show 2 ≤ sizeLine; decide), fun p hp => ?_⟩
      have sp := same_new (o := .tup [.non, .ref a]) hp
      exact q2 _ p a b pre lp g u (s2.trans sp) (SqT.of upd_same) ri ⟨r, q, sqT_same h1 sp, h2.im (Im.same sp), sqT_same h3 sp⟩
theorem mergeK_app : ∀ (more kvs : List (Key × V)), ((kvs ++ more).map (·.1)).Nodup → mergeK kvs more = kvs ++ more
  | [], kvs, _ => by simp [mergeK]
  | kv :: more, kvs, h => by
    have hn : valV kvs kv.1 = none := by
      cases e : valV kvs kv.1 with
      | none => rfl
      | some x =>
        have hm := valV_mem.mp (show (valV kvs kv.1).isSome = true by rw [e]; rfl)
        rw [List.map_append, List.nodup_append] at h
        exact absurd rfl (h.2.2 _ hm kv.1 (by simp))
    have e1 : putK kvs kv.1 kv.2 = kvs ++ [kv] := putK_new kv.2 hn
    show mergeK (putK kvs kv.1 kv.2) more = _
    rw [e1]
    have e2 : kvs ++ kv :: more = (kvs ++ [kv]) ++ more := by simp
    rw [e2] at h ⊢
    exact mergeK_app more (kvs ++ [kv]) h
def negV (kv : Key × V) : Key × V := match kv.2 with
  | .int i => (kv.1, .int (-i))
  | v => (kv.1, v)
theorem negV_keys (W : List (Key × V)) : (W.map negV).map (·.1) = W.map (·.1) := by
  rw [List.map_map]
  refine List.map_congr_left fun kv _ => ?_
  show (negV kv).1 = kv.1
  unfold negV
  split <;> rfl
theorem valV_neg (W : List (Key × V)) (k : Key) (h : ∀ kv ∈ W, ∃ i, kv.2 = .int i) : valV (W.map negV) k = (valV W k).map fun v => match v with
    | .int i => .int (-i)
    | v => v := by
  induction W with
  | nil => rfl
  | cons kv W ih =>
    have ih' := ih fun x hx => h x (List.mem_cons_of_mem _ hx)
    obtain ⟨i, hi⟩ := h kv List.mem_cons_self
    have e1 : (negV kv).1 = kv.1 := by unfold negV; split <;> rfl
    have e2 : (negV kv).2 = .int (-i) := by unfold negV; rw [hi]
    rw [List.map_cons]
    by_cases hk : kv.1 = k
    · rw [valV_pos (by rw [e1]; exact hk), valV_pos hk, e2, hi]
      rfl
    · rw [L2.valV_neg (by rw [e1]; exact hk), L2.valV_neg hk]
      exact ih'
def N_least_leads : List Str := ["translator", "longest", "found", "state", "worth"]
theorem sc_least_leads : FnScope N_least_leads ["translator"] (defScope s_least_leads) := ⟨rfl, rfl, rfl, by decide +kernel, rfl, by decide +kernel, by decide +kernel⟩
theorem C_least_leads (c : Cn K mg) : Cal P w K mg base 4 "least_leads" (sp_least_leads K) [] := by
  refine mkCal (F_least_leads c) (g_least_leads c) sc_least_leads (fun _ _ _ _ _ _ us hl => match us, hl with | [_], _ => rfl) (fun vs H Q E h => ?_) (fun cdv A outer s H vs Q E hr h => ?_)
  · obtain ⟨t, tr, rfl, _⟩ := h
    rfl
  · obtain ⟨t, tr, rfl, ht, q1, q2⟩ := h
    have hu := hu_of hr
    refine ⟨_, (pss_cons (ps_set (i := 1) sc_least_leads.nd rfl (.inl rfl) (pe_mk (K_Longest c) hr (by decide) rfl (pa_cons (pv 0) (pa_cons (pe_un un_neg pe_int) (pa_cons pe_bl pa_nil)))))
      (pss_cons (ps_set (i := 2) sc_least_leads.nd rfl (.inl rfl) (pe_mt0 (M_Longest_follow c) hr (by decide) (pv 1)))
      (pss_cons (ps_if (pt_cmpR op_notN (pv 2) pe_non (nomark _))
        (pss_one (ps_ret (pe_tup (pa_cons pe_non (pa_cons (pv 2) pa_nil)))))
        pss_nil)
      (pss_one (ps_ret (pe_tup (pa_cons (pe_callTy (call_dictP rfl) (by rfl) (m_dict c) (by decide +kernel) (pa_cons (pe_lock (pe_lc (own := [("state", 3), ("worth", 4)]) rfl sc_least_leads.nd (pi_items (fldK K (pv 1) rfl)) (blkOk_by (own := [("state", 3), ("worth", 4)]) (N := N_least_leads) (sc := defScope s_least_leads) (by decide +kernel)) (fun _ _ _ _ _ => (pgT K (n := 2) rfl (pgs_cons (pg_name (i := 3) sc_least_leads.nd rfl (.inl rfl)) (pgs_cons (pg_name (i := 4) sc_least_leads.nd rfl (.inl rfl)) pgs_nil)))) (fun _ _ _ _ _ => pts_nil) (fun _ _ _ _ _ => (pe_tup (pa_cons (pv 3) (pa_cons (pe_un un_neg (pv 4)) pa_nil)))))) pa_nil)) (pa_cons pe_non pa_nil)))))))), ?_⟩
    refine ⟨_, rfl, _, rfl, fun x dx nx ndx nex => ?_⟩
    have s0 : Same H (upd (upd H dx (.own x)) x (.ins (aLo K) dx [])) := fun b o e => by
      rw [upd_ne (ne_of_none e nx), upd_ne (ne_of_none e ndx)]
      exact e
    refine ⟨x, t, dx, tr, -1, rfl, upd_same, ht.same s0, fun H1 wa ra fr hL hwa hra => ⟨rfl, ?_⟩⟩
    have hwa0 : H wa = none := s0.free hwa
    have hra0 : H ra = none := s0.free hra
    have s1 : Same H H1 := fun a o e => fr a o (s0 a o e) (ne_of_none e nx)
    obtain ⟨dx1, hin⟩ := hL.ins
    refine ⟨_, rfl, x, dx1, _, rfl, hin, rfl, x, t, tr, -1, wa, ra, rfl, hL, .inr rfl, fun H2 wf rf L hL2 hI bg fx bx => ?_, fun H2 a r q b pre lp g u ri h1 h2 h3 bx => ?_⟩
    · have s2 : Same H H2 := fun a o e => bx a o (s1 a o e) (ne_of_none e hwa0) (ne_of_none e hra0)
      refine ⟨_, rfl, rfl, _, rfl, ?_⟩
      refine ifNT rfl ?_
      obtain ⟨W, ew, dw⟩ := hL2.wo
      obtain ⟨dx2, hin2⟩ := hL2.ins
      have W9 := Nat.le_trans dw.le hL2.tr.ok.ln.2.2
      have npw : x ≠ wa := ne_of hin2 ew (by intro z; cases z)
      refine ⟨wa, _, ew, trivial, fun od => ?_⟩
      have hwaF : upd H2 wa (.frz od (.dK W)) wa = some (.frz od (.dK W)) := upd_same
      have keepF : ∀ a o, H2 a = some o → a ≠ wa → upd H2 wa (.frz od (.dK W)) a = some o := fun a o e n => by rw [upd_ne n]; exact e
      generalize hF : upd H2 wa (.frz od (.dK W)) = HF at hwaF keepF
      refine ⟨_, rfl, x, aLo K, dx2, _, .ref wa, rfl, keepF _ _ hin2 npw, cl_Longest c, n_Longest_worths c, rfl, wa, od, W, rfl, hwaF, fun D hD => ?_⟩
      refine lc_items (d := wa) (o := od) (kvs := W) (fun i H' => Same HF H' ∧ HF D = none ∧ ∃ ps : List Addr, H' D = some (.lst (ps.map V.ref)) ∧ ps.length = i ∧ Paired (fun (p : Addr) (kv : Key × V) => SqT K H' p [kV kv.1, kv.2]) ps ((W.take i).map negV))
        ⟨same_new hD, hD, [], upd_same, rfl, .nil⟩ (fun i H' h => h.1 _ _ hwaF) ?_ ?_
      · rintro i k v T H3 hi ⟨s3, d1, ps, d2, dl, pr⟩ hT
        obtain ⟨s, n, ekv, hs⟩ := dw.ks (k, v) (List.mem_of_getElem? hi)
        cases ekv
        have s4 : Same H3 (upd H3 T (.tup [kV (.inl s), .int n])) := same_new hT
        have nDT : D ≠ T := ne_of_none d2 hT
        refine ⟨T, _, rfl, SqT.of upd_same, rfl, _, _, rfl, _, _, rfl, rfl, rfl, ?_⟩
        refine ⟨_, rfl, _, rfl, n, rfl, (by show 2 ≤ sizeLine; decide), fun y hy => ?_⟩
        have d3 : upd H3 T (.tup [kV (.inl s), .int n]) D = some (.lst (ps.map V.ref)) := by rw [upd_ne nDT]; exact d2
        have s5 := same_new (o := .tup [.int s, .int (-n)]) hy
        have d4 := s5 _ _ d3
        have d5 : upd (upd H3 T (.tup [kV (.inl s), .int n])) y (.tup [.int s, .int (-n)]) y = some (.tup [.int s, .int (-n)]) := upd_same
        have s35 := s4.trans s5
        have il : i < W.length := (List.getElem?_eq_some_iff.mp hi).1
        refine ⟨ps.map V.ref, d4, ?_, Same.wr (s3.trans s35) d1, d1, ps ++ [y], ?_, by simp [dl], ?_⟩
        · rw [List.length_map, dl]
          exact big (by omega)
        · rw [upd_same, List.map_append]
          rfl
        · have et : W.take (i + 1) = W.take i ++ [(.inl s, .int n)] := by rw [List.take_add_one, hi]; rfl
          rw [et, List.map_append]
          have im := (Im.same s35).trans (im_lst (o := .lst (ps.map V.ref ++ [V.ref y])) d4)
          refine pairApp (pairImp (fun p kv h => im.sq h) pr) (.cons ?_ .nil)
          exact (im_lst d4).sq (SqT.of d5)
      · rintro H3 ⟨s3, d1, ps, d2, dl, pr⟩
        rw [List.take_length] at pr
        have hwa3 := s3 _ _ hwaF
        refine ⟨hwa3, ?_⟩
        have nDw : D ≠ wa := ne_of d2 hwa3 (by intro z; cases z)
        have s4 : Same H2 (upd H3 wa (.dK W)) := fun a o e => by
          by_cases ha : a = wa
          · subst ha
            rw [upd_same, ← ew]
            exact e
          · rw [upd_ne ha]
            exact s3 _ _ (keepF a o e ha)
        have imU : ∀ (p : Addr) (ys : List V), SqT K H3 p ys → SqT K (upd H3 wa (.dK W)) p ys := fun p ys h => by
          rcases h with (h | ⟨o, h⟩) | h
          · exact .inl (.inl (by rw [upd_ne (ne_of h hwa3 (by intro z; cases z))]; exact h))
          · by_cases ha : p = wa
            · subst ha
              rw [hwa3] at h
              cases h
            · exact .inl (.inr ⟨o, by rw [upd_ne ha]; exact h⟩)
          · exact .inr h
        refine ⟨D, ps, W.map negV, rfl, SqL.of (by rw [upd_ne nDw]; exact d2), pairImp (fun p kv h => imU _ _ h) pr, fun d hd => ?_⟩
        have em : mergeK [] (W.map negV) = W.map negV := by
          rw [mergeK_app _ _ (by rw [List.nil_append, negV_keys]; exact dw.nd)]
          rfl
        rw [em]
        have s6 : Same H2 (upd (upd H3 wa (.dK W)) d (.dK (W.map negV))) := s4.trans (same_new hd)
        have d6 : upd (upd H3 wa (.dK W)) d (.dK (W.map negV)) d = some (.dK (W.map negV)) := upd_same
        generalize upd (upd H3 wa (.dK W)) d (.dK (W.map negV)) = H6 at s6 d6
        refine ⟨(by show 2 ≤ sizeLine; decide), fun p hp => ?_⟩
        have sp := same_new (o := .tup [.ref d, .non]) hp
        refine q1 _ p d (W.map negV) wf ((s2.trans s6).trans sp) (SqT.of upd_same) (sp _ _ d6) ⟨by rw [negV_keys]; exact dw.nd, fun kv h => ?_, fun s => ?_⟩ ⟨⟨rf, L, hI⟩, bg, fx⟩
        · obtain ⟨kv0, h1, h2⟩ := List.mem_map.mp h
          obtain ⟨s, n, e, hs⟩ := dw.ks kv0 h1
          subst e
          exact ⟨s, -n, h2.symm, hs⟩
        · rw [valV_neg W _ fun kv h => by obtain ⟨s, n, e, _⟩ := dw.ks kv h; exact ⟨n, by rw [e]⟩, dw.get s]
          cases wf s <;> rfl
    · have s2 : Same H H2 := fun a o e => bx a o (s1 a o e) (ne_of_none e hwa0) (ne_of_none e hra0)
      refine ⟨_, rfl, rfl, _, rfl, ?_⟩
      refine iteND (fun _ => ?_) (fun z => by cases z)
      refine ⟨_, rfl, (by show 2 ≤ sizeLine; decide), fun p hp => ?_⟩
      have sp := same_new (o := .tup [.non, .ref a]) hp
      exact q2 _ p a b pre lp g u (s2.trans sp) (SqT.of upd_same) ri ⟨r, q, sqT_same h1 sp, h2.im (Im.same sp), sqT_same h3 sp⟩
end
end K86
end
section
set_option maxHeartbeats 4000000
namespace K86
open PySem PySem.Spec PyProof.Rows L2
open C8 (Cal Met Mak pe_c pe_mk pe_mt pe_mt0)
section
variable {P : Program} {w : World} {K : PySem.W.Frag} {mg : Str → Option Value} {base : Heap}
/-- each useful state is met on a useful way -/
def Re (tr : Tr) : Prop := ∀ s ∈ tr.us, ∃ g ∈ tr.bs, ∃ ns, wk tr.ms g.s ns = some s ∧ ∀ x ∈ trail tr.ms g.s ns, x ∈ tr.us
/-- no useful run has more than the table tells -/
theorem upper {tr : Tr} {sg : Int} {wf : Int → Option Int} (bg : Begun tr sg wf) (fx : Fix tr sg wf) {g : Bg} (hg : g ∈ tr.bs) : ∀ (n : Nat) (ns : List Int) (s : Int), ns.length = n → wk tr.ms g.s ns = some s → (∀ x ∈ trail tr.ms g.s ns, x ∈ tr.us) → ∃ v, wf s = some v ∧ sg * ((g.w.length : Int) + pathLead tr ns) ≤ v := by
  intro n
  induction n with
  | zero =>
    intro ns s hn hw hu
    have e : ns = [] := List.length_eq_zero_iff.mp hn
    subst e
    have es : g.s = s := Option.some.inj hw
    subst es
    obtain ⟨v, h1, h2⟩ := bg g hg (hu _ (by simp [trail]))
    refine ⟨v, h1, ?_⟩
    unfold pathLead
    simpa using h2
  | succ n ih =>
    intro ns s hn hw hu
    obtain ⟨k, hk⟩ : ∃ k, ns[n]? = some k := ⟨_, List.getElem?_eq_getElem (by omega)⟩
    obtain ⟨m, m1, m2, m3, m4, m5⟩ := wk_at hw hk
    have et : ns.take (n + 1) = ns := List.take_of_length_le (by omega)
    rw [et, hw] at m5
    have es : s = m.t := Option.some.inj m5
    have hlen : (ns.take n).length = n := by rw [List.length_take]; omega
    have e1 : ns = ns.take n ++ [k] := by
      have := et.symm
      rw [List.take_add_one, hk] at this
      exact this
    have etg : tgt tr.ms k = m.t := by unfold tgt; rw [m3]
    have htr : trail tr.ms g.s ns = trail tr.ms g.s (ns.take n) ++ [m.t] := by
      rw [← etg, ← trail_snoc, ← e1]
    obtain ⟨v, h1, h2⟩ := ih (ns.take n) m.s hlen m4 fun x hx => hu x (by rw [htr]; exact List.mem_append_left _ hx)
    have us1 : m.s ∈ tr.us := by
      obtain ⟨u, a1, a2⟩ := trail_at m4 (n := n) (by omega)
      rw [List.take_of_length_le (by omega), m4] at a2
      cases a2
      exact hu _ (by rw [htr]; exact List.mem_append_left _ (List.mem_of_getElem? a1))
    have us2 : m.t ∈ tr.us := hu _ (by rw [htr]; simp)
    obtain ⟨v', h3, h4⟩ := fx m (List.mem_of_getElem? m3) us1 us2 v h1
    refine ⟨v', by rw [es]; exact h3, ?_⟩
    have el : pathLead tr ns = pathLead tr (ns.take n) + ((m.w.length : Int) - 1) := by
      have : pathLead tr ns = pathLead tr (ns.take n ++ [k]) := congrArg _ e1
      rw [this, pathLead_app, pathLead_one]
      unfold leadAt
      rw [m3]
    rw [el]
    rw [Int.mul_add] at h2
    rw [Int.mul_add, Int.mul_add]
    omega
theorem Done.has {tr : Tr} {sg : Int} {wf : Int → Option Int} (d : Done tr sg wf) (re : Re tr) {s : Int} (h : s ∈ tr.us) : ∃ v, wf s = some v := by
  obtain ⟨g, hg, ns, hw, hu⟩ := re s h
  obtain ⟨v, h1, _⟩ := upper d.bg d.fx hg _ ns s rfl hw hu
  exact ⟨v, h1⟩
theorem Done.use {tr : Tr} {sg : Int} {wf : Int → Option Int} (d : Done tr sg wf) {s v : Int} (h : wf s = some v) : s ∈ tr.us := by
  obtain ⟨rf, L, I⟩ := d.inv
  obtain ⟨b, ns, g, h1, kp⟩ := I.run s v h
  obtain ⟨u, h2, h3⟩ := trail_at kp.go (n := ns.length) (Nat.le_refl _)
  rw [List.take_length, kp.go] at h3
  cases h3
  exact (kp.pre _ _ (Nat.le_refl _) h2).1
theorem valV_of_mem {D : List (Key × V)} (nd : (D.map (·.1)).Nodup) {kv : Key × V} (h : kv ∈ D) : valV D kv.1 = some kv.2 := by
  induction D with
  | nil => cases h
  | cons x D ih =>
    rw [List.map_cons, List.nodup_cons] at nd
    rcases List.mem_cons.mp h with e | e
    · subst e
      exact valV_pos rfl
    · have hne : ¬ x.1 = kv.1 := fun z => nd.1 (by rw [z]; exact List.mem_map_of_mem e)
      rw [L2.valV_neg hne]
      exact ih nd.2 e
theorem mem_of_valV {D : List (Key × V)} {k : Key} {v : V} (h : valV D k = some v) : (k, v) ∈ D := by
  induction D with
  | nil => cases h
  | cons x D ih =>
    by_cases e : x.1 = k
    · rw [valV_pos e] at h
      cases h
      exact List.mem_cons.mpr (.inl (by rw [← e]))
    · rw [L2.valV_neg e] at h
      exact List.mem_cons_of_mem _ (ih h)
theorem DW.vals {us : List Int} {D : List (Key × V)} {f : Int → Option Int} (d : DW us D f) : ∃ is : List Int, D.map (·.2) = is.map V.int ∧ ∀ i, i ∈ is ↔ ∃ s, f s = some i := by
  refine ⟨D.map (fun kv => match kv.2 with | .int i => i | _ => 0), ?_, fun i => ⟨fun h => ?_, fun ⟨s, h⟩ => ?_⟩⟩
  · rw [List.map_map]
    refine List.map_congr_left fun kv h => ?_
    obtain ⟨s, n, e, _⟩ := d.ks kv h
    rw [e]
    rfl
  · obtain ⟨kv, h1, h2⟩ := List.mem_map.mp h
    obtain ⟨s, n, e, _⟩ := d.ks kv h1
    have hv := valV_of_mem d.nd h1
    rw [e] at hv h2
    have e2 : n = i := h2
    refine ⟨s, ?_⟩
    have hv' : valV D (.inl s) = some (.int n) := hv
    rw [d.get s] at hv'
    obtain ⟨j, h3, h4⟩ := Option.map_eq_some_iff.mp hv'
    cases h4
    rw [h3, e2]
  · have hv : valV D (.inl s) = some (.int i) := by rw [d.get s, h]; rfl
    exact List.mem_map.mpr ⟨_, mem_of_valV hv, rfl⟩
/-- what is told of one side -/
def LeadIs (tr : Tr) (sg : Int) (v : V) : Prop := (v = .non ∧ ∃ b pre lp g u, Rising tr sg b pre lp g u) ∨ ∃ wf m, v = .int m ∧ Done tr sg wf ∧ (∃ s, wf s = some (sg * m)) ∧ ∀ s x, wf s = some x → x ≤ sg * m
def sp_leads (K : PySem.W.Frag) : Sp := fun vs H Q _ => ∃ (t : Addr) (tr : Tr), vs = [.ref t] ∧ TrAt K H t tr ∧ Re tr ∧
  (tr.us = [] → ∀ H' a, Same H H' → SqT K H' a [.int 0, .int 0] → Q (.ref a) H') ∧
  (tr.us ≠ [] → ∀ H' a lo hi, Same H H' → SqT K H' a [lo, hi] → LeadIs tr (-1) lo → LeadIs tr 1 hi → Q (.ref a) H')
def N_leads : List Str := ["translator", "lows", "falls", "highs", "rises"]
theorem sc_leads : FnScope N_leads ["translator"] (defScope s_leads) := ⟨rfl, rfl, rfl, by decide +kernel, rfl, by decide +kernel, by decide +kernel⟩
theorem FO_leads (c : Cn K mg) : ∃ fd, FunD K "leads" "leads" (defArgs s_leads) (defBody s_leads) (defScope s_leads) [] [] (He.ga K "leads") fd ∧ FnOk P w K mg base CX0 5 (He.ga K "leads") fd ["translator"] (sp_leads K) := by
  obtain ⟨fd, F⟩ := F_leads c
  refine ⟨fd, F, mkFn F sc_leads (fun vs H Q E h => ?_) (fun cdv A outer s H vs Q E hr h => ?_)⟩
  · obtain ⟨t, tr, rfl, _⟩ := h
    rfl
  · obtain ⟨t, tr, rfl, ht, re, q1, q2⟩ := h
    refine ⟨_, (pss_cons (ps_if (pt_cmpR (eqE K hr.units) (pe_useful c (pv 0)) (pe_tup pa_nil) (nomark _))
        (pss_one (ps_ret (pe_tup (pa_cons pe_int (pa_cons pe_int pa_nil)))))
        pss_nil)
      (pss_cons (ps_asg (pe_c (C_least_leads c) hr (by decide) rfl (pa_cons (pv 0) pa_nil)) (pgT K (n := 2) rfl (pgs_cons (pg_name (i := 1) sc_leads.nd rfl (.inl rfl)) (pgs_cons (pg_name (i := 2) sc_leads.nd rfl (.inl rfl)) pgs_nil))))
      (pss_cons (ps_asg (pe_c (C_greatest_leads c) hr (by decide) rfl (pa_cons (pv 0) pa_nil)) (pgT K (n := 2) rfl (pgs_cons (pg_name (i := 3) sc_leads.nd rfl (.inl rfl)) (pgs_cons (pg_name (i := 4) sc_leads.nd rfl (.inl rfl)) pgs_nil))))
      (pss_one (ps_ret (pe_tup (pa_cons (pe_ifExp (pt_cmpR op_isN (pv 1) pe_non (nomark _)) pe_non (pe_minVals rfl (by rfl) (m_min c) (pv 1))) (pa_cons (pe_ifExp (pt_cmpR op_isN (pv 3) pe_non (nomark _)) pe_non (pe_maxVals rfl (by rfl) (m_max c) (pv 3))) pa_nil)))))))), ?_⟩
    refine ⟨_, rfl, t, tr, rfl, ht, fun u hu => ⟨Nat.zero_le _, fun e he => ?_⟩⟩
    have s1 := same_new (o := .tup []) he
    refine ⟨u, e, tr.us, rfl, rfl, sqT_same hu s1, SqT.of upd_same, _, rfl, ?_⟩
    refine iteD (fun h0 => ?_) (fun h0 => ?_)
    · refine ⟨(by show 2 ≤ sizeLine; decide), fun p hp => ?_⟩
      exact q1 h0 _ p (s1.trans (same_new hp)) (SqT.of upd_same)
    generalize upd H e (.tup []) = H1 at s1
    obtain ⟨s0, hs0⟩ := List.exists_mem_of_ne_nil _ h0
    have lead1 : ∀ {D : List (Key × V)} {wf : Int → Option Int} {is : List Int}, (∀ i, i ∈ is ↔ ∃ s, (wf s).map (fun x => x) = some i) → Done tr 1 wf → ∀ m, m ∈ is → (∀ j ∈ is, j ≤ m) → LeadIs tr 1 (.int m) := fun {D wf is} hi dn m hm hle => by
      obtain ⟨s, hs⟩ := (hi m).mp hm
      obtain ⟨v, h1, h2⟩ := Option.map_eq_some_iff.mp hs
      subst h2
      exact .inr ⟨wf, v, rfl, dn, ⟨s, by rw [h1]; simp⟩, fun s' x hx => by have := hle x ((hi x).mpr ⟨s', by rw [hx]; rfl⟩); omega⟩
    have lead2 : ∀ {D : List (Key × V)} {wf : Int → Option Int} {is : List Int}, (∀ i, i ∈ is ↔ ∃ s, (wf s).map (fun x => -x) = some i) → Done tr (-1) wf → ∀ m, m ∈ is → (∀ j ∈ is, m ≤ j) → LeadIs tr (-1) (.int m) := fun {D wf is} hi dn m hm hle => by
      obtain ⟨s, hs⟩ := (hi m).mp hm
      obtain ⟨v, h1, h2⟩ := Option.map_eq_some_iff.mp hs
      have h2' : -v = m := h2
      subst h2'
      exact .inr ⟨wf, -v, rfl, dn, ⟨s, by rw [h1]; simp⟩, fun s' x hx => by have := hle (-x) ((hi (-x)).mpr ⟨s', by rw [hx]; rfl⟩); omega⟩
    have some1 : ∀ {sg : Int} {ng : Int → Int} {wf : Int → Option Int} {is : List Int}, (∀ i, i ∈ is ↔ ∃ s, (wf s).map ng = some i) → Done tr sg wf → is ≠ [] := fun {sg ng wf is} hi dn e => by
      obtain ⟨v, hv⟩ := dn.has re hs0
      have := (hi (ng v)).mpr ⟨s0, by rw [hv]; rfl⟩
      rw [e] at this
      cases this
    refine ⟨_, rfl, t, tr, rfl, ht.same s1, fun H2 a2 d2 D2 wf2 s12 h2 hd2 dw2 dn2 => ?_, fun H2 a2 f2 b2 pre2 lp2 g2 u2 s12 h2 ri2 h4 => ?_⟩
    · refine ⟨a2, _, rfl, h2, rfl, _, _, rfl, _, _, rfl, rfl, ?_⟩
      have s2 := s1.trans s12
      obtain ⟨is2, e2, i2⟩ := dw2.vals
      refine ⟨_, rfl, t, tr, rfl, ht.same s2, fun H3 a3 d3 D3 wf3 s3 h3 hd3 dw3 dn3 => ?_, fun H3 a3 f3 b3 pre3 lp3 g3 u3 s3 h3 ri3 h4 => ?_⟩
      · refine ⟨a3, _, rfl, h3, rfl, _, _, rfl, _, _, rfl, rfl, ?_⟩
        obtain ⟨is3, e3, i3⟩ := dw3.vals
        refine ⟨_, rfl, rfl, _, rfl, ?_⟩
        refine ifF (by intro z; cases z) ?_
        refine ⟨_, rfl, d2, D2, is2, rfl, s3 _ _ hd2, e2, some1 i2 dn2, fun m2 hm2 hle2 => ?_⟩
        refine ⟨_, rfl, rfl, _, rfl, ?_⟩
        refine ifF (by intro z; cases z) ?_
        refine ⟨_, rfl, d3, D3, is3, rfl, hd3, e3, some1 i3 dn3, fun m3 hm3 hle3 => ⟨(by show 2 ≤ sizeLine; decide), fun p hp => ?_⟩⟩
        exact q2 h0 _ p _ _ ((s2.trans s3).trans (same_new hp)) (SqT.of upd_same) (lead2 (D:=D2) i2 dn2 m2 hm2 hle2) (lead1 (D := D3) i3 dn3 m3 hm3 hle3)
      · refine ⟨a3, _, rfl, h3, rfl, _, _, rfl, _, _, rfl, rfl, ?_⟩
        refine ⟨_, rfl, rfl, _, rfl, ?_⟩
        refine ifF (by intro z; cases z) ?_
        refine ⟨_, rfl, d2, D2, is2, rfl, s3 _ _ hd2, e2, some1 i2 dn2, fun m2 hm2 hle2 => ?_⟩
        refine ⟨_, rfl, rfl, _, rfl, ?_⟩
        refine ifT rfl ?_
        refine ⟨(by show 2 ≤ sizeLine; decide), fun p hp => ?_⟩
        exact q2 h0 _ p _ _ ((s2.trans s3).trans (same_new hp)) (SqT.of upd_same) (lead2 (D:=D2) i2 dn2 m2 hm2 hle2) (.inl ⟨rfl, _, _, _, _, _, ri3⟩)
    · refine ⟨a2, _, rfl, h2, rfl, _, _, rfl, _, _, rfl, rfl, ?_⟩
      have s2 := s1.trans s12
      refine ⟨_, rfl, t, tr, rfl, ht.same s2, fun H3 a3 d3 D3 wf3 s3 h3 hd3 dw3 dn3 => ?_, fun H3 a3 f3 b3 pre3 lp3 g3 u3 s3 h3 ri3 h4 => ?_⟩
      · refine ⟨a3, _, rfl, h3, rfl, _, _, rfl, _, _, rfl, rfl, ?_⟩
        obtain ⟨is3, e3, i3⟩ := dw3.vals
        refine ⟨_, rfl, rfl, _, rfl, ?_⟩
        refine ifT rfl ?_
        refine ⟨_, rfl, rfl, _, rfl, ?_⟩
        refine ifF (by intro z; cases z) ?_
        refine ⟨_, rfl, d3, D3, is3, rfl, hd3, e3, some1 i3 dn3, fun m3 hm3 hle3 => ⟨(by show 2 ≤ sizeLine; decide), fun p hp => ?_⟩⟩
        exact q2 h0 _ p _ _ ((s2.trans s3).trans (same_new hp)) (SqT.of upd_same) (.inl ⟨rfl,_,_,_,_,_,ri2⟩) (lead1 (D := D3) i3 dn3 m3 hm3 hle3)
      · refine ⟨a3, _, rfl, h3, rfl, _, _, rfl, _, _, rfl, rfl, ?_⟩
        refine ⟨_, rfl, rfl, _, rfl, ?_⟩
        refine ifT rfl ?_
        refine ⟨_, rfl, rfl, _, rfl, ?_⟩
        refine ifT rfl ?_
        refine ⟨(by show 2 ≤ sizeLine; decide), fun p hp => ?_⟩
        exact q2 h0 _ p _ _ ((s2.trans s3).trans (same_new hp)) (SqT.of upd_same) (.inl ⟨rfl,_,_,_,_,_,ri2⟩) (.inl ⟨rfl, _, _, _, _, _, ri3⟩)
theorem C_leads (c : Cn K mg) : Cal P w K mg base 5 "leads" (sp_leads K) [] := by
  obtain ⟨fd, F, O⟩ := FO_leads (P := P) (w := w) (base := base) c
  exact ⟨⟨_, fd, _, [], O, g_leads c, F.kp, F.bindsN (fun _ _ _ _ _ _ us hl => match us, hl with | [_], _ => rfl), .nil⟩⟩
theorem CK_leads (c : Cn K mg) : KCal P w K mg base 5 "leads" (sp_leads K) ["translator"] g1 := by
  obtain ⟨fd, F, O⟩ := FO_leads (P := P) (w := w) (base := base) c
  exact ⟨⟨_, fd, _, g1, O, g_leads c, F.kp, kbOf F (fun _ _ _ _ _ _ us ws hl => by obtain ⟨a0, rfl, rfl⟩ := g1_len hl; rfl) g1_rel⟩⟩
end
end K86
end
section
set_option maxHeartbeats 4000000
namespace K86
open PySem PySem.Spec PyProof.Rows L2
open C8 (Cal Met Mak pe_c pe_mk pe_mt pe_mt0)
section
variable {P : Program} {w : World} {K : PySem.W.Frag} {mg : Str → Option Value} {base : Heap}
def sortOf (sg : Int) : Str := if sg = 1 then "rises" else "falls"
def sp_pace (K : PySem.W.Frag) : Sp := fun vs H Q _ => ∃ (t : Addr) (tr : Tr), vs = [.ref t] ∧ TrAt K H t tr ∧ Re tr ∧
  (∀ H' a r q b pre lp g u sg, Same H H' → SqT K H' a [.str (sortOf sg), .ref r, .ref q] → RunAt K H' r b pre → SqT K H' q (nums lp) → Rising tr sg b pre lp g u → (sg = 1 ∨ sg = -1) → Q (.ref a) H') ∧
  (∀ H' a p rv (lo hi : Int → Int) wl wh, Same H H' → SqT K H' a [.str "between", .ref p] → SqT K H' p rv → Rw nums K H' rv (tr.us.map fun s => [s, lo s, hi s]) → Done tr (-1) wl → Done tr 1 wh → (∀ s ∈ tr.us, wl s = some (-(lo s)) ∧ wh s = some (hi s)) → Q (.ref a) H')
def N_pace : List Str := ["translator", "highs", "rises", "lows", "falls", "state"]
theorem sc_pace : FnScope N_pace ["translator"] (defScope s_pace) := ⟨rfl, rfl, rfl, by decide +kernel, rfl, by decide +kernel, by decide +kernel⟩
theorem FO_pace (c : Cn K mg) : ∃ fd, FunD K "pace" "pace" (defArgs s_pace) (defBody s_pace) (defScope s_pace) [] [] (He.ga K "pace") fd ∧ FnOk P w K mg base CX0 5 (He.ga K "pace") fd ["translator"] (sp_pace K) := by
  obtain ⟨fd, F⟩ := F_pace c
  refine ⟨fd, F, mkFn F sc_pace (fun vs H Q E h => ?_) (fun cdv A outer s H vs Q E hr h => ?_)⟩
  · obtain ⟨t, tr, rfl, _⟩ := h
    rfl
  · obtain ⟨t, tr, rfl, ht, re, q1, q2⟩ := h
    have hu := hu_of hr
    refine ⟨_, (pss_cons (ps_asg (pe_c (C_greatest_leads c) hr (by decide) rfl (pa_cons (pv 0) pa_nil)) (pgT K (n := 2) rfl (pgs_cons (pg_name (i := 1) sc_pace.nd rfl (.inr rfl)) (pgs_cons (pg_name (i := 2) sc_pace.nd rfl (.inl rfl)) pgs_nil))))
      (pss_cons (ps_if (pt_cmpR op_notN (pv 2) pe_non (nomark _))
        (pss_one (ps_ret (pe_tup (pa_cons (pe_gstr rfl (m_RISES c)) (pa_cons (pe_ix (ixT K) (pv 2) pe_int (fun _ _ => rfl)) (pa_cons (pe_ix (ixT K) (pv 2) pe_int (fun _ _ => rfl)) pa_nil))))))
        pss_nil)
      (pss_cons (ps_asg (pe_c (C_least_leads c) hr (by decide) rfl (pa_cons (pv 0) pa_nil)) (pgT K (n := 2) rfl (pgs_cons (pg_name (i := 3) sc_pace.nd rfl (.inr rfl)) (pgs_cons (pg_name (i := 4) sc_pace.nd rfl (.inl rfl)) pgs_nil))))
      (pss_cons (ps_if (pt_cmpR op_notN (pv 4) pe_non (nomark _))
        (pss_one (ps_ret (pe_tup (pa_cons (pe_gstr rfl (m_FALLS c)) (pa_cons (pe_ix (ixT K) (pv 4) pe_int (fun _ _ => rfl)) (pa_cons (pe_ix (ixT K) (pv 4) pe_int (fun _ _ => rfl)) pa_nil))))))
        pss_nil)
      (pss_one (ps_ret (pe_tup (pa_cons (pe_gstr rfl (m_BETWEEN c)) (pa_cons (pe_callTy (tupOf K) (by rfl) (m_tuple c) (by decide +kernel) (pa_cons (pe_lc (own := [("state", 5)]) rfl sc_pace.nd (piT K (pe_useful c (pv 0))) (blkOk_by (own := [("state", 5)]) (N := N_pace) (sc := defScope s_pace) (by decide +kernel)) (fun _ _ _ _ _ => (pg_name (i := 5) sc_pace.nd rfl (.inl rfl))) (fun _ _ _ _ _ => pts_nil) (fun _ _ _ _ _ => (pe_tup (pa_cons (pv 5) (pa_cons (pe_dget hu (pv 3) (pv 5) (fun _ _ => rfl)) (pa_cons (pe_dget hu (pv 1) (pv 5) (fun _ _ => rfl)) pa_nil)))))) pa_nil)) pa_nil))))))))), ?_⟩
    refine ⟨_, rfl, t, tr, rfl, ht, fun H2 a2 d2 D2 wf2 s12 h2 hd2 dw2 dn2 => ?_, fun H2 a2 f2 b2 pre2 lp2 g2 u2 s12 h2 ri2 ⟨r, q, f1, f2, f3⟩ => ?_⟩
    · refine ⟨a2, _, rfl, h2, rfl, _, _, rfl, _, _, rfl, rfl, ?_⟩
      refine ⟨_, rfl, rfl, _, rfl, ?_⟩
      refine ifNT rfl ?_
      refine ⟨_, rfl, t, tr, rfl, ht.same s12, fun H3 a3 d3 D3 wf3 s3 h3 hd3 dw3 dn3 => ?_, fun H3 a3 f3 b3 pre3 lp3 g3 u3 s3 h3 ri3 ⟨r, q, f1, f2, f3⟩ => ?_⟩
      · refine ⟨a3, _, rfl, h3, rfl, _, _, rfl, _, _, rfl, rfl, ?_⟩
        refine ⟨_, rfl, rfl, _, rfl, ?_⟩
        refine ifNT rfl ?_
        have s23 := s12.trans s3
        let lo : Int → Int := fun s => -((wf3 s).getD 0)
        let hi : Int → Int := fun s => (wf2 s).getD 0
        have hlo : ∀ s ∈ tr.us, wf3 s = some (-(lo s)) ∧ wf2 s = some (hi s) := fun s hs => by
          obtain ⟨v, hv⟩ := dn3.has re hs
          obtain ⟨v', hv'⟩ := dn2.has re hs
          refine ⟨?_, ?_⟩
          · show _ = some (-(-((wf3 s).getD 0)))
            rw [hv]
            simp
          · show _ = some ((wf2 s).getD 0)
            rw [hv']
            simp
        refine ⟨_, rfl, t, tr, rfl, ht.same s23, fun u huu => ?_⟩
        have us9 := ht.ok.ln.2.2
        refine ⟨u, rfl, ⟨_, huu⟩, fun D hD => lc_tup (K := K) (a := u) (xs := nums tr.us) (fun i H' => Same H3 H' ∧ H3 D = none ∧ ∃ ws, H' D = some (.lst ws) ∧ Rw nums K H' ws ((tr.us.take i).map fun s => [s, lo s, hi s]))
          ⟨same_new hD, hD, [], upd_same, Rw.nil⟩ (fun i H' _ h => sqT_same huu h.1) ?_ ?_⟩
        · rintro i x H4 hx ⟨s4, d1, ws, e4, hw⟩
          obtain ⟨k, rfl, hk⟩ := nums_get hx
          have hks := List.mem_of_getElem? hk
          obtain ⟨l1, l2⟩ := hlo k hks
          have g3 : DGet H4 d3 (kV (.inl k)) (some (.int (lo k))) := by
            have g := DGet.k (k := Sum.inl k) (s4 _ _ hd3)
            rw [dw3.get k, l1] at g
            simpa using g
          have g2 : DGet H4 d2 (kV (.inl k)) (some (.int (hi k))) := by
            have g := DGet.k (k := Sum.inl k) (s4 _ _ (s3 _ _ hd2))
            rw [dw2.get k, l2] at g
            exact g
          refine ⟨rfl, ?_⟩
          refine ⟨_, rfl, _, rfl, _, rfl, d3, _, rfl, g3, _, rfl, _, rfl, d2, _, rfl, g2, (by show 3 ≤ sizeLine; decide), fun y hy => ?_⟩
          have sy := same_new (o := .tup [.int k, .int (lo k), .int (hi k)]) hy
          have d4 := sy _ _ e4
          have d5 : upd H4 y (.tup [.int k, .int (lo k), .int (hi k)]) y = some (.tup [.int k, .int (lo k), .int (hi k)]) := upd_same
          have il : i < tr.us.length := (List.getElem?_eq_some_iff.mp hk).1
          have wl := hw.1
          rw [List.length_map, List.length_take] at wl
          refine ⟨ws, d4, big (by omega), Same.wr (s4.trans sy) d1, d1, ws ++ [.ref y], upd_same, ?_⟩
          have et : tr.us.take (i + 1) = tr.us.take i ++ [k] := by rw [List.take_add_one, hk]; rfl
          rw [et, List.map_append]
          refine Rw.snoc (((Im.same sy).trans (im_lst d4)).rw hw) ?_
          exact (im_lst d4).sq (SqT.of d5)
        · rintro H4 ⟨s4, d1, ws, e4, hw⟩
          rw [nums_len, List.take_length] at hw
          refine ⟨D, ws, rfl, .inl ⟨SqL.of e4, fun l hl => ⟨(by show 2 ≤ sizeLine; decide), fun p hp => ?_⟩⟩⟩
          have sl := same_new (o := .tup ws) hl
          have dl : upd H4 l (.tup ws) l = some (.tup ws) := upd_same
          generalize upd H4 l (.tup ws) = H5 at hp sl dl
          have sp := same_new (o := .tup [.str "between", .ref l]) hp
          exact q2 _ p l ws lo hi wf3 wf2 (((s23.trans s4).trans sl).trans sp) (SqT.of upd_same) (SqT.of (sp _ _ dl)) ((Im.same (sl.trans sp)).rw hw) dn3 dn2 hlo
      · refine ⟨a3, _, rfl, h3, rfl, _, _, rfl, _, _, rfl, rfl, ?_⟩
        refine ⟨_, rfl, rfl, _, rfl, ?_⟩
        refine iteND (fun _ => ?_) (fun z => by cases z)
        refine ⟨_, rfl, _, _, _, _, rfl, rfl, f1, rfl, _, rfl, _, _, _, _, rfl, rfl, f1, rfl, (by show 3 ≤ sizeLine; decide), fun p hp => ?_⟩
        have sp := same_new (o := .tup [.str "falls", .ref r, .ref q]) hp
        exact q1 _ p r q _ _ _ _ _ (-1) ((s12.trans s3).trans sp) (SqT.of upd_same) (f2.im (Im.same sp)) (sqT_same f3 sp) ri3 (.inr rfl)
    · refine ⟨a2, _, rfl, h2, rfl, _, _, rfl, _, _, rfl, rfl, ?_⟩
      refine ⟨_, rfl, rfl, _, rfl, ?_⟩
      refine iteND (fun _ => ?_) (fun z => by cases z)
      refine ⟨_, rfl, _, _, _, _, rfl, rfl, f1, rfl, _, rfl, _, _, _, _, rfl, rfl, f1, rfl, (by show 3 ≤ sizeLine; decide), fun p hp => ?_⟩
      have sp := same_new (o := .tup [.str "rises", .ref r, .ref q]) hp
      exact q1 _ p r q _ _ _ _ _ 1 (s12.trans sp) (SqT.of upd_same) (f2.im (Im.same sp)) (sqT_same f3 sp) ri2 (.inl rfl)
theorem C_pace (c : Cn K mg) : Cal P w K mg base 5 "pace" (sp_pace K) [] := by
  obtain ⟨fd, F, O⟩ := FO_pace (P := P) (w := w) (base := base) c
  exact ⟨⟨_, fd, _, [], O, g_pace c, F.kp, F.bindsN (fun _ _ _ _ _ _ us hl => match us, hl with | [_], _ => rfl), .nil⟩⟩
theorem CK_pace (c : Cn K mg) : KCal P w K mg base 5 "pace" (sp_pace K) ["translator"] g1 := by
  obtain ⟨fd, F, O⟩ := FO_pace (P := P) (w := w) (base := base) c
  exact ⟨⟨_, fd, _, g1, O, g_pace c, F.kp, kbOf F (fun _ _ _ _ _ _ us ws hl => by obtain ⟨a0, rfl, rfl⟩ := g1_len hl; rfl) g1_rel⟩⟩
end
end K86
end
section
set_option maxHeartbeats 4000000
namespace K86
open PySem PySem.Spec PyProof.Rows L2
open C8 (Cal Met Mak pe_c pe_mk pe_mt pe_mt0)
section
variable {P : Program} {w : World} {K : PySem.W.Frag} {mg : Str → Option Value} {base : Heap}
theorem eqv_nums (ns : List Int) : PyData.eqv (.tuple (ns.map PyData.int)) (.tuple (ns.map PyData.int)) = true := SeqAt.eqv_refl _ (SeqAt.canLay_of_shaped (shaped_nums ns))
def N_are_rows : List Str := ["translator", "thing", "many", "row", "part"]
theorem sc_are_rows : FnScope N_are_rows ["translator", "thing", "many"] (defScope s_are_rows) := ⟨rfl, rfl, rfl, by decide +kernel, rfl, by decide +kernel, by decide +kernel⟩
def row3 (lo hi : Int → Int) (s : Int) : List Int := [s, lo s, hi s]
def sp_are_rows (K : PySem.W.Frag) : Sp := fun vs H Q _ => ∃ (t p : Addr) (tr : Tr) (rv : List V) (lo hi : Int → Int), vs = [.ref t, .ref p, .int 3] ∧ TrAt K H t tr ∧ SqT K H p rv ∧ Rw nums K H rv (tr.us.map (row3 lo hi)) ∧ ∀ H', Same H H' → Q (.bl true) H'
theorem C_are_rows (c : Cn K mg) : Cal P w K mg base 2 "are_rows" (sp_are_rows K) [] := by
  refine mkCal (F_are_rows c) (g_are_rows c) sc_are_rows (fun _ _ _ _ _ _ us hl => match us, hl with | [_, _, _], _ => rfl) (fun vs H Q E h => ?_) (fun cdv A outer s H vs Q E hr h => ?_)
  · obtain ⟨t, p, tr, rv, lo, hi, rfl, _⟩ := h
    rfl
  · obtain ⟨t, p, tr, rv, lo, hi, rfl, ht, hp, hw, q⟩ := h
    have us9 := ht.ok.ln.2.2
    have rvl : rv.length = tr.us.length := by rw [hw.1, List.length_map]
    have rowAt : ∀ {H' : Hp} {i : Nat} {x : V}, Same H H' → rv[i]? = some x → ∃ s a, tr.us[i]? = some s ∧ x = .ref a ∧ SqT K H' a (nums (row3 lo hi s)) ∧ i ≤ 9 := fun {H' i x} s hi => by
      obtain ⟨r, a, h1, h2, h3⟩ := hw.get hi
      rw [List.getElem?_map] at h1
      obtain ⟨s0, h4, h5⟩ := Option.map_eq_some_iff.mp h1
      subst h5
      have := (List.getElem?_eq_some_iff.mp hi).1
      exact ⟨s0, a, h4, h2, sqT_same h3 s, by omega⟩
    refine ⟨_, (pss_cons (ps_if (PW.pt (pw_or (pt_not (pt_val (pe_callB (isi K) (by rfl) (m_isinstance c) (by decide +kernel) (pa_cons (pv 1) (pa_cons (pe_bltn (v := .ty "tuple") (by rfl) (m_tuple c) (by decide +kernel) rfl) pa_nil))))) (pw_or1 (pt_not (pt_val (pe_callB (cr_all rfl) (by rfl) (m_all c) (by decide +kernel) (pa_cons (pe_lc (own := [("row", 3)]) rfl sc_are_rows.nd (piT K (pv 1)) (blkOk_by (own := [("row", 3)]) (N := N_are_rows) (sc := defScope s_are_rows) (by decide +kernel)) (fun _ _ _ _ _ => (pg_name (i := 3) sc_are_rows.nd rfl (.inl rfl))) (fun _ _ _ _ _ => pts_nil) (fun _ _ _ _ _ => (pe_and (pe_callB (isi K) (by rfl) (m_isinstance c) (by decide +kernel) (pa_cons (pv 3) (pa_cons (pe_bltn (v := .ty "tuple") (by rfl) (m_tuple c) (by decide +kernel) rfl) pa_nil))) (pe_one (pe_cmpR op_eq (pe_callB (lenS K) (by rfl) (m_len c) (by decide +kernel) (pa_cons (pv 3) pa_nil)) (pv 2) (nomark _)))))) pa_nil)))))))
        (pss_one (ps_ret pe_bl))
        pss_nil)
      (pss_cons (ps_if (pt_not (pt_val (pe_callB (cr_all rfl) (by rfl) (m_all c) (by decide +kernel) (pa_cons (pe_lc2 (own := [("row", 3), ("part", 4)]) (vs1 := [4]) rfl sc_are_rows.nd (piT K (pv 1)) (blkOk_by (own := [("row", 3), ("part", 4)]) (N := N_are_rows) (sc := defScope s_are_rows) (by decide +kernel)) (by decide) (fun _ _ _ _ _ => (pg_name (i := 3) sc_are_rows.nd rfl (.inl rfl))) (fun _ _ _ _ _ => pts_nil) (fun _ _ _ _ _ => (piT K (pv 3))) (fun _ _ _ _ _ => (pg_name (i := 4) sc_are_rows.nd rfl (.inl rfl))) (fun _ _ _ _ _ => pts_nil) (fun _ _ _ _ _ => (pe_c (C_is_integer_paces c) hr (by decide) rfl (pa_cons (pv 4) pa_nil)))) pa_nil))))
        (pss_one (ps_ret pe_bl))
        pss_nil)
      (pss_one (ps_ret (pe_cmpR (eqD K hr.units) (pe_callTy (tupOf K) (by rfl) (m_tuple c) (by decide +kernel) (pa_cons (pe_lc (own := [("row", 3)]) rfl sc_are_rows.nd (piT K (pv 1)) (blkOk_by (own := [("row", 3)]) (N := N_are_rows) (sc := defScope s_are_rows) (by decide +kernel)) (fun _ _ _ _ _ => (pg_name (i := 3) sc_are_rows.nd rfl (.inl rfl))) (fun _ _ _ _ _ => pts_nil) (fun _ _ _ _ _ => (pe_ix (ixT K) (pv 3) pe_int (fun _ _ => rfl)))) pa_nil)) (pe_callTy (tupOf K) (by rfl) (m_tuple c) (by decide +kernel) (pa_cons (pe_useful c (pv 0)) pa_nil)) (nomark _)))))), ?_⟩
    refine ⟨_, rfl, _, _, _, _, true, rfl, .ty _, tyT hp, kit_ty (by decide +kernel), _, rfl, ?_⟩
    refine ⟨_, rfl, p, rfl, ⟨_, hp⟩, fun D hD => lc_tup (K := K) (a := p) (xs := rv) (fun i H' => Same H H' ∧ H D = none ∧ H' D = some (.lst (List.replicate i (.bl true)))) ⟨same_new hD, hD, upd_same⟩ (fun i H' _ h => sqT_same hp h.1) ?_ ?_⟩
    · rintro i x H1 hx ⟨s1, d1, d2⟩
      obtain ⟨s0, a, _, rfl, hrow, i9⟩ := rowAt s1 hx
      refine ⟨rfl, ?_⟩
      refine ⟨_, rfl, _, _, _, _, true, rfl, .ty _, tyT hrow, kit_ty (by decide +kernel), _, rfl, ?_⟩
      refine ⟨_, rfl, _, _, rfl, .inr hrow, _, rfl, rfl, ?_⟩
      refine ⟨_, d2, big (by rw [List.length_replicate]; omega), Same.wr s1 d1, d1, ?_⟩
      rw [upd_same]
      exact congrArg (fun z => some (HO.lst z)) snoc_true
    rintro H1 ⟨s1, d1, d2⟩
    refine ⟨D, List.replicate rv.length true, rfl, by rw [map_true]; exact SqL.of d2, ?_⟩
    rw [all_true]
    refine ⟨_, rfl, ?_⟩
    -- the parts
    refine ⟨_, rfl, p, rfl, ⟨_, sqT_same hp s1⟩, fun D2 hD2 => ⟨fun i m H' => m = rv.length - i ∧ i ≤ rv.length ∧ Same H1 H' ∧ H1 D2 = none ∧ H' D2 = some (.lst (List.replicate (3 * i) (.bl true))), ⟨rv.length, by simp, Nat.zero_le _, same_new hD2, hD2, upd_same⟩, ?_⟩⟩
    rintro i m H2 ⟨rfl, hi1, s2, d3, d4⟩
    by_cases lt : i < rv.length
    · have hx := List.getElem?_eq_getElem lt
      obtain ⟨s0, a, _, ea, hrow, i9⟩ := rowAt (s1.trans s2) hx
      refine .inr ⟨⟨rv, _, sqT_same hp (s1.trans s2), hx⟩, fun H' => Same H1 H' ∧ H1 D2 = none ∧ H' D2 = some (.lst (List.replicate (3 * (i + 1)) (.bl true))), fun H' h => ⟨rv.length - (i + 1), by omega, rfl, lt, h.1, h.2.1, h.2.2⟩, fun x H' hy => ?_⟩
      obtain ⟨rfl, hx2⟩ := hy
      have ex : x = .ref a := by
        have := hx2 rv (sqT_same hp (s1.trans s2))
        rw [hx, ea] at this
        exact (Option.some.inj this).symm
      subst ex
      refine ⟨rfl, ?_⟩
      refine ⟨_, rfl, a, rfl, ⟨_, hrow⟩, fun j k H3 => k = 3 - j ∧ j ≤ 3 ∧ Same H1 H3 ∧ H1 D2 = none ∧ H3 D2 = some (.lst (List.replicate (3 * i + j) (.bl true))), ⟨3, rfl, Nat.zero_le _, s2, d3, d4⟩, ?_⟩
      rintro j k H3 ⟨rfl, hj, s3, _, d5⟩
      have hrow3 : SqT K H3 a (nums (row3 lo hi s0)) := by
        obtain ⟨s0', a', e1, e2, h3, _⟩ := rowAt (s1.trans s3) hx
        rw [ea] at e2
        cases e2
        rename_i e0 _ _
        rw [e0] at e1
        cases e1
        exact h3
      by_cases lj : j < 3
      · have hz : (nums (row3 lo hi s0))[j]? = some (nums (row3 lo hi s0))[j] := List.getElem?_eq_getElem (by rw [nums_len]; exact lj)
        refine .inr ⟨⟨_, _, hrow3, hz⟩, fun H' => Same H1 H' ∧ H1 D2 = none ∧ H' D2 = some (.lst (List.replicate (3 * i + (j + 1)) (.bl true))), fun H' h => ⟨3 - (j + 1), by omega, rfl, lj, h.1, h.2.1, h.2.2⟩, fun y H' hy => ?_⟩
        obtain ⟨rfl, hy2⟩ := hy
        obtain ⟨n, rfl, _⟩ := nums_get (hy2 _ hrow3)
        refine ⟨rfl, ?_⟩
        refine ⟨_, rfl, n, rfl, ?_⟩
        refine ⟨_, d5, big (by rw [List.length_replicate]; omega), Same.wr s3 d3, d3, ?_⟩
        rw [upd_same]
        exact congrArg (fun z => some (HO.lst z)) snoc_true
      · obtain rfl : j = 3 := by omega
        exact .inl ⟨⟨_, hrow3, by rw [nums_len]; exact Nat.le_refl _⟩, s3, d3, d5⟩
    obtain rfl : i = rv.length := by omega
    refine .inl ⟨⟨rv, sqT_same hp (s1.trans s2), Nat.le_refl _⟩, ?_⟩
    refine ⟨D2, List.replicate (3 * rv.length) true, rfl, by rw [map_true]; exact SqL.of d4, ?_⟩
    rw [all_true]
    refine ⟨_, rfl, ?_⟩
    have s02 := s1.trans s2
    refine ⟨_, rfl, p, rfl, ⟨_, sqT_same hp s02⟩, fun D3 hD3 => lc_tup (K := K) (a := p) (xs := rv) (fun i H' => Same H2 H' ∧ H2 D3 = none ∧ H' D3 = some (.lst (nums (tr.us.take i)))) ⟨same_new hD3, hD3, upd_same⟩ (fun i H' _ h => sqT_same hp (s02.trans h.1)) ?_ ?_⟩
    · rintro i x H3 hx ⟨s3, d5, d6⟩
      obtain ⟨s0, a, e0, rfl, hrow, i9⟩ := rowAt (s02.trans s3) hx
      refine ⟨rfl, ?_⟩
      refine ⟨_, rfl, _, _, _, _, rfl, rfl, hrow, rfl, ?_⟩
      refine ⟨_, d6, big (by rw [nums_len, List.length_take]; omega), Same.wr s3 d5, d5, ?_⟩
      have et : tr.us.take (i + 1) = tr.us.take i ++ [s0] := by rw [List.take_add_one, e0]; rfl
      rw [upd_same, et, ← nums_snoc]
    · rintro H3 ⟨s3, d5, d6⟩
      rw [rvl, List.take_length] at d6
      refine ⟨D3, _, rfl, .inl ⟨SqL.of d6, fun l hl => ?_⟩⟩
      have sl := same_new (o := .tup (nums tr.us)) hl
      have s04 := (s02.trans s3).trans sl
      refine ⟨_, rfl, t, tr, rfl, ht.same s04, fun u hu => ⟨u, _, rfl, .inr ⟨hu, ?_⟩⟩⟩
      refine ⟨_, _, dpN (SqT.of upd_same), dpN hu, shaped_nums _, shaped_nums _, ?_⟩
      rw [eqv_nums]
      exact q _ s04
end
end K86
end
section
set_option maxHeartbeats 4000000
namespace K86
open PySem PySem.Spec PyProof.Rows L2
open C8 (Cal Met Mak pe_c pe_mk pe_mt pe_mt0)
section
variable {P : Program} {w : World} {K : PySem.W.Frag} {mg : Str → Option Value} {base : Heap}
structure Bet (tr : Tr) (lo hi : Int → Int) : Prop where
  bg : ∀ g ∈ tr.bs, g.s ∈ tr.us → lo g.s ≤ (g.w.length : Int) ∧ (g.w.length : Int) ≤ hi g.s
  mv : ∀ m ∈ tr.ms, m.s ∈ tr.us → m.t ∈ tr.us → lo m.t ≤ lo m.s + ((m.w.length : Int) - 1) ∧ hi m.s + ((m.w.length : Int) - 1) ≤ hi m.t
theorem bet_of {tr : Tr} {lo hi : Int → Int} {wl wh : Int → Option Int} (d1 : Done tr (-1) wl) (d2 : Done tr 1 wh) (h : ∀ s ∈ tr.us, wl s = some (-(lo s)) ∧ wh s = some (hi s)) : Bet tr lo hi := by
  refine ⟨fun g hg hu => ?_, fun m hm h1 h2 => ?_⟩
  · obtain ⟨a, b⟩ := h _ hu
    obtain ⟨v, e1, e2⟩ := d1.bg g hg hu
    obtain ⟨v', e3, e4⟩ := d2.bg g hg hu
    rw [a] at e1
    rw [b] at e3
    cases e1
    cases e3
    omega
  · obtain ⟨a, b⟩ := h _ h1
    obtain ⟨a', b'⟩ := h _ h2
    obtain ⟨v, e1, e2⟩ := d1.fx m hm h1 h2 _ a
    obtain ⟨v', e3, e4⟩ := d2.fx m hm h1 h2 _ b
    rw [a'] at e1
    rw [b'] at e3
    cases e1
    cases e3
    omega
theorem merge_fun (f : Int → Int) : ∀ (us : List Int) (acc : List (Key × V)) (x : Int), valV (mergeK acc (us.map fun s => ((.inl s : Key), V.int (f s)))) (.inl x) = if x ∈ us then some (.int (f x)) else valV acc (.inl x)
  | [], acc, x => by simp [mergeK]
  | s :: us, acc, x => by
    have ih := merge_fun f us (putK acc (.inl s) (.int (f s))) x
    show valV (mergeK (putK acc (.inl s) (.int (f s))) (us.map fun s => ((.inl s : Key), V.int (f s)))) (.inl x) = _
    rw [ih, valV_put]
    by_cases h1 : x ∈ us
    · rw [if_pos h1, if_pos (List.mem_cons_of_mem _ h1)]
    · rw [if_neg h1]
      by_cases h2 : x = s
      · subst h2
        rw [if_pos rfl, if_pos List.mem_cons_self]
      · rw [if_neg (fun z => h2 (Sum.inl.inj z)), if_neg (fun z => by rcases List.mem_cons.mp z with e | e; exact h2 e; exact h1 e)]
/-- the dict at d tells f at the useful states -/
def FunD' (us : List Int) (f : Int → Int) (H : Hp) (d : Addr) : Prop := ∃ D, H d = some (.dK D) ∧ ∀ s ∈ us, valV D (.inl s) = some (.int (f s))
theorem FunD'.get {us : List Int} {f : Int → Int} {H : Hp} {d : Addr} (h : FunD' us f H d) {s : Int} (hs : s ∈ us) : DGet H d (kV (.inl s)) (some (.int (f s))) := by
  obtain ⟨D, e, g⟩ := h
  have q := DGet.k (k := Sum.inl s) e
  rw [g s hs] at q
  exact q
theorem FunD'.same {us : List Int} {f : Int → Int} {H H' : Hp} {d : Addr} (h : FunD' us f H d) (s : Same H H') : FunD' us f H' d := let ⟨D, e, g⟩ := h; ⟨D, s _ _ e, g⟩
def N_is_between : List Str := ["translator", "thing", "lows", "highs", "index", "state", "lead", "target", "low", "high", "length"]
theorem sc_is_between : FnScope N_is_between ["translator", "thing"] (defScope s_is_between) := ⟨rfl, rfl, rfl, by decide +kernel, rfl, by decide +kernel, by decide +kernel⟩
def sp_is_between (K : PySem.W.Frag) : Sp := fun vs H Q _ => ∃ (t p : Addr) (tr : Tr) (rv : List V) (lo hi : Int → Int), vs = [.ref t, .ref p] ∧ TrAt K H t tr ∧ SqT K H p rv ∧ Rw nums K H rv (tr.us.map (row3 lo hi)) ∧ Bet tr lo hi ∧ ∀ H', Same H H' → Q (.bl true) H'
theorem C_is_between (c : Cn K mg) : Cal P w K mg base 3 "is_between" (sp_is_between K) [] := by
  refine mkCal (F_is_between c) (g_is_between c) sc_is_between (fun _ _ _ _ _ _ us hl => match us, hl with | [_, _], _ => rfl) (fun vs H Q E h => ?_) (fun cdv A outer s H vs Q E hr h => ?_)
  · obtain ⟨t, p, tr, rv, lo, hi, rfl, _⟩ := h
    rfl
  · obtain ⟨t, p, tr, rv, lo, hi, rfl, ht, hp, hw, bt, q⟩ := h
    have hu := hu_of hr
    have us9 := ht.ok.ln.2.2
    have rvl : rv.length = tr.us.length := by rw [hw.1, List.length_map]
    have rowAt : ∀ {H' : Hp} {i : Nat} {x : V}, Same H H' → rv[i]? = some x → ∃ s a, tr.us[i]? = some s ∧ x = .ref a ∧ SqT K H' a (nums (row3 lo hi s)) ∧ i ≤ 9 := fun {H' i x} s hi => by
      obtain ⟨r, a, h1, h2, h3⟩ := hw.get hi
      rw [List.getElem?_map] at h1
      obtain ⟨s0, h4, h5⟩ := Option.map_eq_some_iff.mp h1
      subst h5
      have := (List.getElem?_eq_some_iff.mp hi).1
      exact ⟨s0, a, h4, h2, sqT_same h3 s, by omega⟩
    refine ⟨_, (pss_cons (ps_if (pt_not (pt_val (pe_c (C_are_rows c) hr (by decide) rfl (pa_cons (pv 0) (pa_cons (pv 1) (pa_cons (pe_gint rfl (m_PACE_PARTS c)) pa_nil))))))
        (pss_one (ps_ret pe_bl))
        pss_nil)
      (pss_cons (ps_set (i := 2) sc_is_between.nd rfl (.inr rfl) (pe_callTy (call_dictP rfl) (by rfl) (m_dict c) (by decide +kernel) (pa_cons (pe_lc (own := [("state", 5), ("low", 8), ("high", 9)]) rfl sc_is_between.nd (piT K (pv 1)) (blkOk_by (own := [("state", 5), ("low", 8), ("high", 9)]) (N := N_is_between) (sc := defScope s_is_between) (by decide +kernel)) (fun _ _ _ _ _ => (pgT K (n := 3) rfl (pgs_cons (pg_name (i := 5) sc_is_between.nd rfl (.inl rfl)) (pgs_cons (pg_name (i := 8) sc_is_between.nd rfl (.inl rfl)) (pgs_cons (pg_name (i := 9) sc_is_between.nd rfl (.inl rfl)) pgs_nil))))) (fun _ _ _ _ _ => pts_nil) (fun _ _ _ _ _ => (pe_tup (pa_cons (pv 5) (pa_cons (pv 8) pa_nil))))) pa_nil)))
      (pss_cons (ps_set (i := 3) sc_is_between.nd rfl (.inr rfl) (pe_callTy (call_dictP rfl) (by rfl) (m_dict c) (by decide +kernel) (pa_cons (pe_lc (own := [("state", 5), ("low", 8), ("high", 9)]) rfl sc_is_between.nd (piT K (pv 1)) (blkOk_by (own := [("state", 5), ("low", 8), ("high", 9)]) (N := N_is_between) (sc := defScope s_is_between) (by decide +kernel)) (fun _ _ _ _ _ => (pgT K (n := 3) rfl (pgs_cons (pg_name (i := 5) sc_is_between.nd rfl (.inl rfl)) (pgs_cons (pg_name (i := 8) sc_is_between.nd rfl (.inl rfl)) (pgs_cons (pg_name (i := 9) sc_is_between.nd rfl (.inl rfl)) pgs_nil))))) (fun _ _ _ _ _ => pts_nil) (fun _ _ _ _ _ => (pe_tup (pa_cons (pv 5) (pa_cons (pv 9) pa_nil))))) pa_nil)))
      (pss_cons (ps_if (pt_not (pt_val (pe_callB (cr_all rfl) (by rfl) (m_all c) (by decide +kernel) (pa_cons (pe_lc (own := [("index", 4), ("state", 5), ("length", 10)]) rfl sc_is_between.nd (piL K (pe_c (C_useful_begins c) hr (by decide) rfl (pa_cons (pv 0) pa_nil))) (blkOk_by (own := [("index", 4), ("state", 5), ("length", 10)]) (N := N_is_between) (sc := defScope s_is_between) (by decide +kernel)) (fun _ _ _ _ _ => (pgT K (n := 3) rfl (pgs_cons (pg_name (i := 4) sc_is_between.nd rfl (.inl rfl)) (pgs_cons (pg_name (i := 5) sc_is_between.nd rfl (.inl rfl)) (pgs_cons (pg_name (i := 10) sc_is_between.nd rfl (.inl rfl)) pgs_nil))))) (fun _ _ _ _ _ => pts_nil) (fun _ _ _ _ _ => (pe_chain op_le op_le (pe_dget hu (pv 2) (pv 5) (fun _ _ => rfl)) (pv 10) (pe_dget hu (pv 3) (pv 5) (fun _ _ => rfl))))) pa_nil))))
        (pss_one (ps_ret pe_bl))
        pss_nil)
      (pss_cons (ps_for PassesOwn.never rfl (piL K (pe_c (C_useful_moves c) hr (by decide) rfl (pa_cons (pv 0) pa_nil))) (pgT K (n := 4) rfl (pgs_cons (pg_name (i := 4) sc_is_between.nd rfl (.inl rfl)) (pgs_cons (pg_name (i := 5) sc_is_between.nd rfl (.inl rfl)) (pgs_cons (pg_name (i := 6) sc_is_between.nd rfl (.inl rfl)) (pgs_cons (pg_name (i := 7) sc_is_between.nd rfl (.inl rfl)) pgs_nil)))))
        (pss_one (ps_if (PW.pt (pw_or (pt_cmpR op_gt (pe_dget hu (pv 2) (pv 7) (fun _ _ => rfl)) (pe_op op_add (pe_dget hu (pv 2) (pv 5) (fun _ _ => rfl)) (pv 6)) (nomark _)) (pw_or1 (pt_cmpR op_lt (pe_dget hu (pv 3) (pv 7) (fun _ _ => rfl)) (pe_op op_add (pe_dget hu (pv 3) (pv 5) (fun _ _ => rfl)) (pv 6)) (nomark _)))))
          (pss_one (ps_ret pe_bl))
          pss_nil)))
      (pss_one (ps_ret pe_bl))))))), ?_⟩
    refine ⟨_, rfl, _, rfl, t, p, tr, rv, lo, hi, rfl, ht, hp, hw, fun H0 s0 => ⟨_, rfl, ?_⟩⟩
    refine ⟨_, rfl, p, rfl, ⟨_, sqT_same hp s0⟩, fun DD1 hDD1 => lc_tup (K := K) (a := p) (xs := rv) (fun i H' => Same H0 H' ∧ H0 DD1 = none ∧ ∃ ps1 : List Addr, H' DD1 = some (.lst (ps1.map V.ref)) ∧ ps1.length = i ∧ Paired (fun (p : Addr) (kv : Key × V) => SqT K H' p [kV kv.1, kv.2]) ps1 ((tr.us.take i).map fun s => ((.inl s : Key), V.int (lo s))))
      ⟨same_new hDD1, hDD1, [], upd_same, rfl, .nil⟩ (fun i H' _ h => sqT_same hp (s0.trans h.1)) ?_ ?_⟩
    · rintro i x HH1 hx ⟨s1, dd1, ps1, d2, dl1, pr⟩
      obtain ⟨z, a, ez, rfl, hrow, i9⟩ := rowAt (s0.trans s1) hx
      refine ⟨a, _, rfl, hrow, rfl, _, _, rfl, _, _, rfl, _, _, rfl, rfl, rfl, ?_⟩
      refine ⟨_, rfl, _, rfl, (by show 2 ≤ sizeLine; decide), fun y hy => ?_⟩
      have sy := same_new (o := .tup [.int z, .int (lo z)]) hy
      have d3 := sy _ _ d2
      have d4 : upd HH1 y (.tup [.int z, .int (lo z)]) y = some (.tup [.int z, .int (lo z)]) := upd_same
      refine ⟨_, d3, big (by rw [List.length_map]; omega), Same.wr (s1.trans sy) dd1, dd1, ps1 ++ [y], by rw [upd_same, List.map_append]; rfl, by simp [dl1], ?_⟩
      have et : tr.us.take (i + 1) = tr.us.take i ++ [z] := by rw [List.take_add_one, ez]; rfl
      rw [et, List.map_append]
      have im := (Im.same sy).trans (im_lst (o := .lst (ps1.map V.ref ++ [V.ref y])) d3)
      exact pairApp (pairImp (fun p kv h => im.sq h) pr) (.cons ((im_lst d3).sq (SqT.of d4)) .nil)
    rintro HH1 ⟨s1, dd1, ps1, d2, dl1, pr⟩
    rw [rvl, List.take_length] at pr
    refine ⟨DD1, ps1, _, rfl, SqL.of d2, pr, fun dx hd1 => ?_⟩
    have fx : FunD' tr.us lo (upd HH1 dx (.dK (mergeK [] (tr.us.map fun s => ((.inl s : Key), V.int (lo s)))))) dx := ⟨_, upd_same, fun s hs => by rw [merge_fun, if_pos hs]⟩
    have sx := (s0.trans s1).trans (same_new (o := .dK (mergeK [] (tr.us.map fun s => ((.inl s : Key), V.int (lo s))))) hd1)
    have sa1 := s1.trans (same_new (o := .dK (mergeK [] (tr.us.map fun s => ((.inl s : Key), V.int (lo s))))) hd1)
    generalize upd HH1 dx (.dK (mergeK [] (tr.us.map fun s => ((.inl s : Key), V.int (lo s))))) = Hx at fx sx sa1
    clear pr d2 s1
    refine ⟨_, rfl, p, rfl, ⟨_, sqT_same hp sx⟩, fun DD2 hDD2 => lc_tup (K := K) (a := p) (xs := rv) (fun i H' => Same Hx H' ∧ Hx DD2 = none ∧ ∃ ps2 : List Addr, H' DD2 = some (.lst (ps2.map V.ref)) ∧ ps2.length = i ∧ Paired (fun (p : Addr) (kv : Key × V) => SqT K H' p [kV kv.1, kv.2]) ps2 ((tr.us.take i).map fun s => ((.inl s : Key), V.int (hi s))))
      ⟨same_new hDD2, hDD2, [], upd_same, rfl, .nil⟩ (fun i H' _ h => sqT_same hp (sx.trans h.1)) ?_ ?_⟩
    · rintro i x HH2 hx ⟨s1, dd2, ps2, d2, dl2, pr⟩
      obtain ⟨z, a, ez, rfl, hrow, i9⟩ := rowAt (sx.trans s1) hx
      refine ⟨a, _, rfl, hrow, rfl, _, _, rfl, _, _, rfl, _, _, rfl, rfl, rfl, ?_⟩
      refine ⟨_, rfl, _, rfl, (by show 2 ≤ sizeLine; decide), fun y hy => ?_⟩
      have sy := same_new (o := .tup [.int z, .int (hi z)]) hy
      have d3 := sy _ _ d2
      have d4 : upd HH2 y (.tup [.int z, .int (hi z)]) y = some (.tup [.int z, .int (hi z)]) := upd_same
      refine ⟨_, d3, big (by rw [List.length_map]; omega), Same.wr (s1.trans sy) dd2, dd2, ps2 ++ [y], by rw [upd_same, List.map_append]; rfl, by simp [dl2], ?_⟩
      have et : tr.us.take (i + 1) = tr.us.take i ++ [z] := by rw [List.take_add_one, ez]; rfl
      rw [et, List.map_append]
      have im := (Im.same sy).trans (im_lst (o := .lst (ps2.map V.ref ++ [V.ref y])) d3)
      exact pairApp (pairImp (fun p kv h => im.sq h) pr) (.cons ((im_lst d3).sq (SqT.of d4)) .nil)
    rintro HH2 ⟨s1, dd2, ps2, d2, dl2, pr⟩
    rw [rvl, List.take_length] at pr
    refine ⟨DD2, ps2, _, rfl, SqL.of d2, pr, fun dy hd2 => ?_⟩
    have fy : FunD' tr.us hi (upd HH2 dy (.dK (mergeK [] (tr.us.map fun s => ((.inl s : Key), V.int (hi s)))))) dy := ⟨_, upd_same, fun s hs => by rw [merge_fun, if_pos hs]⟩
    have sy1 := (sx.trans s1).trans (same_new (o := .dK (mergeK [] (tr.us.map fun s => ((.inl s : Key), V.int (hi s))))) hd2)
    have sa2 := s1.trans (same_new (o := .dK (mergeK [] (tr.us.map fun s => ((.inl s : Key), V.int (hi s))))) hd2)
    generalize upd HH2 dy (.dK (mergeK [] (tr.us.map fun s => ((.inl s : Key), V.int (hi s))))) = Hy at fy sy1 sa2
    clear pr d2 s1
    have fx2 := fx.same sa2
    refine ⟨_, rfl, t, tr, rfl, ht.same sy1, fun H3 D ws s3 hD hD1 hws => ?_⟩
    have fx3 := fx2.same s3
    have fy3 := fy.same s3
    refine ⟨D, rfl, ⟨_, SqL.of hD1⟩, fun E1 hE1 => lc_list (K := K) (a := D) (xs := ws) (fun i H' => Same H3 H' ∧ H3 E1 = none ∧ H' E1 = some (.lst (List.replicate i (.bl true)))) ⟨same_new hE1, hE1, upd_same⟩ (fun i H' _ h => h.1.seq (SqL.of hD1)) ?_ ?_⟩
    · rintro i x H4 hx ⟨s4, d1, d2⟩
      obtain ⟨row, a, hrow, rfl, hsq⟩ := hws.get hx
      obtain ⟨i', g, hg, hs, rfl⟩ := usefulB_at hrow
      obtain ⟨b1, b2⟩ := bt.bg g (List.mem_of_getElem? hg) hs
      refine ⟨a, _, rfl, sqT_same hsq s4, rfl, _, _, rfl, _, _, rfl, _, _, rfl, rfl, rfl, ?_⟩
      refine ⟨_, rfl, _, rfl, dx, _, rfl, (fx3.same s4).get hs, _, rfl, _, _, rfl, rfl, _, rfl, ?_⟩
      refine ifT b1 ?_
      refine ⟨_, rfl, _, rfl, dy, _, rfl, (fy3.same s4).get hs, _, _, rfl, rfl, ?_⟩
      have i9 : i ≤ 9 := by
        have e1 := (List.getElem?_eq_some_iff.mp hrow).1
        have e2 : (usefulB tr).length ≤ 9 := by
          unfold usefulB
          rw [List.length_map]
          have := List.length_filter_le (fun p : Bg × Nat => decide (p.1.s ∈ tr.us)) tr.bs.zipIdx
          rw [List.length_zipIdx] at this
          have := ht.ok.ln.1
          omega
        omega
      refine ⟨_, d2, big (by rw [List.length_replicate]; omega), Same.wr s4 d1, d1, ?_⟩
      rw [upd_same]
      have eb : decide ((g.w.length : Int) ≤ hi g.s) = true := decide_eq_true b2
      show some (HO.lst (List.replicate i (V.bl true) ++ [V.bl (decide ((g.w.length : Int) ≤ hi g.s))])) = _
      rw [eb]
      exact congrArg (fun z => some (HO.lst z)) snoc_true
    rintro H4 ⟨s4, d1, d2⟩
    refine ⟨E1, List.replicate ws.length true, rfl, by rw [map_true]; exact SqL.of d2, ?_⟩
    rw [all_true]
    refine ⟨_, rfl, ?_⟩
    have s04 := (sy1.trans s3).trans s4
    refine ⟨_, rfl, t, tr, rfl, ht.same s04, fun H5 D5 ws5 s5 hD5 hD51 hws5 => ?_⟩
    have fx5 := (fx3.same s4).same s5
    have fy5 := (fy3.same s4).same s5
    refine ⟨D5, rfl, ⟨_, SqL.of hD51⟩, for_list (K := K) (a := D5) (xs := ws5) (fun j σ H' => H' = H5 ∧ ∃ x4 x5 x6 x7 x8 x9 x10, σ = [some (.ref t), some (.ref p), some (.ref dx), some (.ref dy), x4, x5, x6, x7, x8, x9, x10])
      ⟨rfl, _, _, _, _, _, _, _, rfl⟩ (fun i σ H' _ h => h.1 ▸ SqL.of hD51) ?_ ?_⟩
    · rintro j x σ H6 hj ⟨rfl, x4, x5, x6, x7, x8, x9, x10, rfl⟩
      obtain ⟨row, a, hrow, rfl, hsq⟩ := hws5.get hj
      obtain ⟨i, m, hm, hs, htt, rfl⟩ := usefulM_at hrow
      obtain ⟨b1, b2⟩ := bt.mv m (List.mem_of_getElem? hm) hs htt
      refine ⟨a, _, rfl, hsq, rfl, _, _, rfl, _, _, rfl, _, _, rfl, _, _, rfl, rfl, ?_⟩
      refine ⟨_, rfl, _, rfl, dx, _, rfl, fx5.get htt, _, rfl, _, rfl, dx, _, rfl, fx5.get hs, _, rfl, _, _, rfl, rfl, _, _, rfl, rfl, _, rfl, ?_⟩
      refine ifF (by omega) ?_
      refine ⟨_, rfl, _, rfl, dy, _, rfl, fy5.get htt, _, rfl, _, rfl, dy, _, rfl, fy5.get hs, _, rfl, _, _, rfl, rfl, _, _, rfl, rfl, _, rfl, ?_⟩
      refine ifF (by omega) ?_
      exact ⟨rfl, _, _, _, _, _, _, _, rfl⟩
    · rintro σ H6 ⟨rfl, _⟩
      exact q _ (s04.trans s5)
def N_pace_holds : List Str := ["translator", "thing"]
theorem sc_pace_holds : FnScope N_pace_holds ["translator", "thing"] (defScope s_pace_holds) := ⟨rfl, rfl, rfl, by decide +kernel, rfl, by decide +kernel, by decide +kernel⟩
theorem lay_nums (ns : List Int) : PyData.canLayAll0 (ns.map PyData.int) = true ∧ PyData.depthAll (ns.map PyData.int) = 0 := by
  induction ns with
  | nil => exact ⟨by simp [PyData.canLayAll0], by simp [PyData.depthAll]⟩
  | cons n ns ih => exact ⟨by simp [PyData.canLayAll0, PyData.canLay0, ih.1], by simp [PyData.depthAll, PyData.depth, ih.2]⟩
def pdN (ns : List Int) : PyData := .tuple (ns.map PyData.int)
theorem lay_rows (rs : List (List Int)) : PyData.canLayAll0 (rs.map pdN) = true ∧ PyData.depthAll (rs.map pdN) ≤ 1 := by
  induction rs with
  | nil => exact ⟨by simp [PyData.canLayAll0], by simp [PyData.depthAll]⟩
  | cons n ns ih =>
    obtain ⟨h1, h2⟩ := lay_nums n
    refine ⟨by simp [PyData.canLayAll0, PyData.canLay0, pdN, ih.1, h1], ?_⟩
    have : PyData.depth (pdN n) ≤ 1 := by simp [pdN, PyData.depth, h2]
    rw [List.map_cons, PyData.depthAll]
    have := ih.2
    omega
def riseD (z : Str) (b : Int) (pre lp : List Int) : PyData := .tuple [.str z, .tuple [.int b, pdN pre], pdN lp]
def betD (rs : List (List Int)) : PyData := .tuple [.str "between", .tuple (rs.map pdN)]
theorem shaped_rise {z : Str} (hz : z = "rises" ∨ z = "falls") (b : Int) (pre lp : List Int) : SeqAt.shaped (riseD z b pre lp) = true := by
  obtain ⟨h1, h2⟩ := lay_nums pre
  obtain ⟨h3, h4⟩ := lay_nums lp
  have hs : PyData.canLay0 (.str z) = true := by rcases hz with rfl | rfl <;> decide +kernel
  unfold SeqAt.shaped riseD pdN
  simp only [PyData.canLay0, PyData.canLayAll0, PyData.depth, PyData.depthAll, h1, h2, h3, h4]
  simp only [PyData.canLay0] at hs
  rw [hs]
  decide
theorem shaped_bet (rs : List (List Int)) : SeqAt.shaped (betD rs) = true := by
  obtain ⟨h1, h2⟩ := lay_rows rs
  have hs : PyData.canLay0 (.str "between") = true := by decide +kernel
  unfold SeqAt.shaped betD
  simp only [PyData.canLay0] at hs
  simp only [PyData.canLay0, PyData.canLayAll0, PyData.depth, PyData.depthAll, h1, hs, Bool.true_and, Bool.and_true, decide_eq_true_eq]
  simp
  omega
theorem dpRun {H : Hp} {r : Addr} {b : Int} {pre : List Int} (h : RunAt K H r b pre) : Dp K H (.ref r) (.tuple [.int b, pdN pre]) := by
  obtain ⟨p, h1, h2⟩ := h.ex
  exact .tup h1 (.cons (.int b) (.cons (dpN h2) .nil))
theorem dpRise {H : Hp} {a r q : Addr} {z : Str} {b : Int} {pre lp : List Int} (h : SqT K H a [.str z, .ref r, .ref q]) (h1 : RunAt K H r b pre) (h2 : SqT K H q (nums lp)) : Dp K H (.ref a) (riseD z b pre lp) :=
  .tup h (.cons (.str z) (.cons (dpRun h1) (.cons (dpN h2) .nil)))
theorem dpRows {H : Hp} : ∀ {rv : List V} {rs : List (List Int)}, Rw nums K H rv rs → DpAll K H rv (rs.map pdN)
  | [], [], _ => .nil
  | v :: rv, r :: rs, h => by
    obtain ⟨a, e, hs⟩ := h.2 0 r rfl
    cases e
    refine .cons (dpN hs) (dpRows ⟨by have := h.1; simpa using this, fun i x hx => ?_⟩)
    obtain ⟨a2, e2, h2⟩ := h.2 (i + 1) x hx
    exact ⟨a2, e2, h2⟩
  | [], r :: rs, h => by have := h.1; simp at this
  | v :: rv, [], h => by have := h.1; simp at this
theorem dpBet {H : Hp} {a p : Addr} {rv : List V} {rs : List (List Int)} (h : SqT K H a [.str "between", .ref p]) (h1 : SqT K H p rv) (h2 : Rw nums K H rv rs) : Dp K H (.ref a) (betD rs) :=
  .tup h (.cons (.str _) (.cons (.tup h1 (dpRows h2)) .nil))
def sp_pace_holds (K : PySem.W.Frag) : Sp := fun vs H Q _ => ∃ (t a : Addr) (tr : Tr), vs = [.ref t, .ref a] ∧ TrAt K H t tr ∧ (∀ H', Same H H' → Q (.bl true) H') ∧
  ((∃ r q b pre lp g u sg, SqT K H a [.str (sortOf sg), .ref r, .ref q] ∧ RunAt K H r b pre ∧ SqT K H q (nums lp) ∧ Rising tr sg b pre lp g u ∧ (sg = 1 ∨ sg = -1)) ∨
   (∃ p rv lo hi, SqT K H a [.str "between", .ref p] ∧ SqT K H p rv ∧ Rw nums K H rv (tr.us.map (row3 lo hi)) ∧ Bet tr lo hi))
theorem C_pace_holds (c : Cn K mg) : Cal P w K mg base 6 "pace_holds" (sp_pace_holds K) [] := by
  refine mkCal (F_pace_holds c) (g_pace_holds c) sc_pace_holds (fun _ _ _ _ _ _ us hl => match us, hl with | [_, _], _ => rfl) (fun vs H Q E h => ?_) (fun cdv A outer s H vs Q E hr h => ?_)
  · obtain ⟨t, a, tr, rfl, _⟩ := h
    rfl
  · obtain ⟨t, a, tr, rfl, ht, q, hh⟩ := h
    refine ⟨_, (pss_cons (ps_if (PW.pt (pw_or (pt_not (pt_val (pe_callB (isi K) (by rfl) (m_isinstance c) (by decide +kernel) (pa_cons (pv 1) (pa_cons (pe_bltn (v := .ty "tuple") (by rfl) (m_tuple c) (by decide +kernel) rfl) pa_nil))))) (pw_or (pt_cmpR (eqD K hr.units) (pv 1) (pe_tup pa_nil) (nomark _)) (pw_or1 (pt_not (pt_val (pe_callB (isi K) (by rfl) (m_isinstance c) (by decide +kernel) (pa_cons (pe_ix (ixT K) (pv 1) pe_int (fun _ _ => rfl)) (pa_cons (pe_bltn (v := .ty "str") (by rfl) (m_str c) (by decide +kernel) rfl) pa_nil)))))))))
        (pss_one (ps_ret pe_bl))
        pss_nil)
      (pss_cons (ps_if (pt_cmpR op_eq (pe_ix (ixT K) (pv 1) pe_int (fun _ _ => rfl)) (pe_gstr rfl (m_BETWEEN c)) (nomark _))
        (pss_one (ps_ret (pe_and (pe_cmpR op_eq (pe_callB (lenS K) (by rfl) (m_len c) (by decide +kernel) (pa_cons (pv 1) pa_nil)) (pe_gint rfl (m_BETWEEN_PARTS c)) (nomark _)) (pe_one (pe_c (C_is_between c) hr (by decide) rfl (pa_cons (pv 0) (pa_cons (pe_ix (ixT K) (pv 1) pe_int (fun _ _ => rfl)) pa_nil)))))))
        pss_nil)
      (pss_cons (ps_if (PW.pt (pw_or (pt_cmpR (opNotIn K) (pe_ix (ixT K) (pv 1) pe_int (fun _ _ => rfl)) (pe_tup (pa_cons (pe_gstr rfl (m_RISES c)) (pa_cons (pe_gstr rfl (m_FALLS c)) pa_nil))) (by rfl)) (pw_or (pt_cmpR op_ne (pe_callB (lenS K) (by rfl) (m_len c) (by decide +kernel) (pa_cons (pv 1) pa_nil)) (pe_gint rfl (m_PACE_PARTS c)) (nomark _)) (pw_or1 (pt_not (pt_val (pe_c (C_is_useful_run c) hr (by decide) rfl (pa_cons (pv 0) (pa_cons (pe_ix (ixT K) (pv 1) pe_int (fun _ _ => rfl)) pa_nil)))))))))
        (pss_one (ps_ret pe_bl))
        pss_nil)
      (pss_cons (ps_if (pt_not (pt_val (pe_c (C_is_loop c) hr (by decide) rfl (pa_cons (pv 0) (pa_cons (pe_mt (M_Translator_last_state c) hr (by decide) (pv 0) (pa_cons (pe_ix (ixT K) (pv 1) pe_int (fun _ _ => rfl)) pa_nil)) (pa_cons (pe_ix (ixT K) (pv 1) pe_int (fun _ _ => rfl)) pa_nil))))))
        (pss_one (ps_ret pe_bl))
        pss_nil)
      (pss_one (ps_ret (pe_cmpR op_gt (pe_op op_mul (pe_c (C_path_lead c) hr (by decide) rfl (pa_cons (pv 0) (pa_cons (pe_ix (ixT K) (pv 1) pe_int (fun _ _ => rfl)) pa_nil))) (pe_ifExp (pt_cmpR op_eq (pe_ix (ixT K) (pv 1) pe_int (fun _ _ => rfl)) (pe_gstr rfl (m_RISES c)) (nomark _)) pe_int (pe_un un_neg pe_int))) pe_int (nomark _)))))))), ?_⟩
    rcases hh with ⟨r, q', b, pre, lp, g, u, sg, h1, h2, h3, ri, hsg⟩ | ⟨p, rv, lo, hi, h1, h2, h3, bt⟩
    · refine ⟨_, rfl, _, _, _, _, true, rfl, .ty _, tyT h1, kit_ty (by decide +kernel), _, rfl, ?_⟩
      refine ⟨_, rfl, Nat.zero_le _, fun e he => ?_⟩
      have s1 := same_new (o := .tup []) he
      have de : upd H e (.tup []) e = some (.tup []) := upd_same
      generalize upd H e (.tup []) = H1 at s1 de
      have a1 := sqT_same h1 s1
      have a2 := h2.im (Im.same s1)
      have a3 := sqT_same h3 s1
      have ht1 := ht.same s1
      have hz : sortOf sg = "rises" ∨ sortOf sg = "falls" := by rcases hsg with rfl | rfl; exact .inl rfl; exact .inr rfl
      refine ⟨_, .tuple [], dpRise a1 a2 a3, .tup (SqT.of de) .nil, shaped_rise hz b pre lp, shaped_nums [], _, rfl, ?_⟩
      refine ⟨_, rfl, _, _, _, _, rfl, rfl, a1, rfl, _, _, _, _, true, rfl, .ty _, .base (.str _), kit_ty (by decide +kernel), _, rfl, ?_⟩
      refine ⟨_, rfl, _, _, _, _, rfl, rfl, a1, rfl, rfl, _, rfl, ?_⟩
      refine ifF (by rcases hsg with rfl | rfl <;> decide) ?_
      refine ⟨_, rfl, _, _, _, _, rfl, rfl, a1, rfl, (by show 2 ≤ sizeLine; decide), fun y hy => ?_⟩
      have s2 := same_new (o := .tup [.str "rises", .str "falls"]) hy
      have dy : upd H1 y (.tup [.str "rises", .str "falls"]) y = some (.tup [.str "rises", .str "falls"]) := upd_same
      generalize upd H1 y (.tup [.str "rises", .str "falls"]) = H2 at s2 dy
      have b1 := sqT_same a1 s2
      have b2 := a2.im (Im.same s2)
      have b3 := sqT_same a3 s2
      have ht2 := ht1.same s2
      refine ⟨y, _, rfl, .inr (SqT.of dy), rfl, rfl, false, (by rcases hsg with rfl | rfl <;> rfl), ?_⟩
      refine ⟨_, rfl, _, _, rfl, .inr b1, rfl, _, rfl, ?_⟩
      have rt : RunTo tr b pre u := ⟨ri.b0, by have := (List.getElem?_eq_some_iff.mp ri.bg).1; have := ri.b0; omega, g, ri.bg, ri.go⟩
      have uu : u ∈ tr.us := by
        obtain ⟨x, e1, e2⟩ := trail_at ri.go (n := pre.length) (Nat.le_refl _)
        rw [List.take_length, ri.go] at e2
        cases e2
        refine ri.us _ ?_
        have e3 : trail tr.ms g.s pre = (trail tr.ms g.s (pre ++ lp)).take (pre.length + 1) := by
          rw [← trail_take, List.take_append_of_le_length (Nat.le_refl _), List.take_length]
        exact List.mem_of_mem_take (e3 ▸ List.mem_of_getElem? e1)
      refine ⟨_, rfl, _, rfl, _, _, _, _, rfl, rfl, b1, rfl, t, r, tr, b, pre, u, rfl, ht2, b2, rt, uu, fun H3 s3 => ⟨_, rfl, ?_⟩⟩
      have ht3 := ht2.same s3
      obtain ⟨dx, fs, i1, i2, i3⟩ := ht3.ins
      refine ⟨_, rfl, _, rfl, t, dx, fs, rfl, i1, i3, _, rfl, _, _, _, _, rfl, rfl, sqT_same b1 s3, rfl, t, r, tr, b, pre, u, rfl, ht3, b2.im (Im.same s3), rt, fun H4 s4 => ?_⟩
      have s34 := s3.trans s4
      refine ⟨_, rfl, _, _, _, _, rfl, rfl, sqT_same b1 s34, rfl, t, q', tr, u, lp, rfl, ht3.same s4, sqT_same b3 s34, ri.ne, ri.back, fun H5 s5 => ⟨_, rfl, ?_⟩⟩
      have s35 := s34.trans s5
      have ln := ri.ln
      refine ⟨_, rfl, _, rfl, _, _, _, _, rfl, rfl, sqT_same b1 s35, rfl, t, q', tr, lp, rfl, (ht3.same s4).same s5, sqT_same b3 s35, wk_within ri.back, big (by omega), fun H6 s6 => ?_⟩
      have s36 := s35.trans s6
      refine ⟨_, rfl, _, _, _, _, rfl, rfl, sqT_same b1 s36, rfl, rfl, _, rfl, ?_⟩
      have pos := ri.pos
      have fin : Same H H6 := (s1.trans s2).trans s36
      rcases hsg with rfl | rfl
      · refine ifT (by rfl) ?_
        refine ⟨_, _, rfl, rfl, .inr (by decide), _, _, rfl, rfl, ?_⟩
        exact Qt (Q := Q) (by omega) (q _ fin)
      · refine ifF (by decide) ?_
        refine ⟨_, rfl, _, _, rfl, rfl, .inr (by decide), _, _, rfl, rfl, ?_⟩
        exact Qt (Q := Q) (by omega) (q _ fin)
    · refine ⟨_, rfl, _, _, _, _, true, rfl, .ty _, tyT h1, kit_ty (by decide +kernel), _, rfl, ?_⟩
      refine ⟨_, rfl, Nat.zero_le _, fun e he => ?_⟩
      have s1 := same_new (o := .tup []) he
      have de : upd H e (.tup []) e = some (.tup []) := upd_same
      generalize upd H e (.tup []) = H1 at s1 de
      have a1 := sqT_same h1 s1
      have a2 := sqT_same h2 s1
      have a3 := (Im.same s1).rw h3
      have ht1 := ht.same s1
      refine ⟨_, .tuple [], dpBet a1 a2 a3, .tup (SqT.of de) .nil, shaped_bet _, shaped_nums [], _, rfl, ?_⟩
      refine ⟨_, rfl, _, _, _, _, rfl, rfl, a1, rfl, _, _, _, _, true, rfl, .ty _, .base (.str _), kit_ty (by decide +kernel), _, rfl, ?_⟩
      refine ⟨_, rfl, _, _, _, _, rfl, rfl, a1, rfl, rfl, _, rfl, ?_⟩
      refine ifT (by rfl) ?_
      refine ⟨_, rfl, _, _, rfl, .inr a1, rfl, _, rfl, ?_⟩
      exact ⟨_, rfl, _, rfl, _, _, _, _, rfl, rfl, a1, rfl, t, p, tr, rv, lo, hi, rfl, ht1, a2, a3, bt, fun H2 s2 => q _ (s1.trans s2)⟩
end
end K86
end
section
set_option maxHeartbeats 4000000
namespace K86
open PySem PySem.Spec PyProof.Rows L2
open C8 (Cal Met Mak pe_c pe_mk pe_mt pe_mt0)
/-! ### ascending lists -/
def Asc (ns : List Int) : Prop := ns.Pairwise (· < ·)
theorem Asc.nd {ns : List Int} (h : Asc ns) : ns.Nodup := List.Pairwise.imp (fun h => Int.ne_of_lt h) h
theorem asc_unique : ∀ {xs ys : List Int}, Asc xs → Asc ys → (∀ i, i ∈ xs ↔ i ∈ ys) → xs = ys
  | [], [], _, _, _ => rfl
  | [], y :: ys, _, _, h => by have := (h y).mpr List.mem_cons_self; cases this
  | x :: xs, [], _, _, h => by have := (h x).mp List.mem_cons_self; cases this
  | x :: xs, y :: ys, h1, h2, h => by
    have a1 := List.pairwise_cons.mp h1
    have a2 := List.pairwise_cons.mp h2
    have e : x = y := by
      rcases List.mem_cons.mp ((h x).mp List.mem_cons_self) with e | e
      · exact e
      · rcases List.mem_cons.mp ((h y).mpr List.mem_cons_self) with e' | e'
        · exact e'.symm
        · have := a2.1 x e
          have := a1.1 y e'
          omega
    subst e
    refine congrArg (x :: ·) (asc_unique a1.2 a2.2 fun i => ⟨fun hi => ?_, fun hi => ?_⟩)
    · rcases List.mem_cons.mp ((h i).mp (List.mem_cons_of_mem _ hi)) with e | e
      · have := a1.1 i hi
        omega
      · exact e
    · rcases List.mem_cons.mp ((h i).mpr (List.mem_cons_of_mem _ hi)) with e | e
      · have := a2.1 i hi
        omega
      · exact e
theorem lt_int (a b : Int) : PySem.W.dataLt (.int a) (.int b) = decide (a < b) := by
  unfold PySem.W.dataLt
  simp only [PySem.W.keyToks]
  by_cases h : a = b
  · subst h
    rw [PyProof.Rows.lex_self, decide_eq_false (by omega)]
    rfl
  · rw [PyProof.Rows.lex_diff (O := PyProof.Rows.itemOrd) (fun z => h (Sum.inl.inj z))]
    rfl
theorem asc_of {M ks : List Key} (hp : M.Perm ks) (nd : ks.Nodup) (pw : M.Pairwise (fun q r => PySem.W.dataLt (SetX.kD r) (SetX.kD q) = false)) (hi : ∀ k ∈ ks, ∃ i, k = .inl i) : ∃ ns : List Int, M.map kV = nums ns ∧ Asc ns ∧ ∀ i, i ∈ ns ↔ (.inl i : Key) ∈ ks := by
  have hM : ∀ k ∈ M, ∃ i, k = .inl i := fun k h => hi k (hp.mem_iff.mp h)
  have ndM : M.Nodup := hp.nodup_iff.mpr nd
  have mem := fun k => hp.mem_iff (a := k)
  clear hp nd hi
  have go : ∀ M : List Key, (∀ k ∈ M, ∃ i, k = .inl i) → M.Nodup → M.Pairwise (fun q r => PySem.W.dataLt (SetX.kD r) (SetX.kD q) = false) → ∃ ns : List Int, M = ns.map Sum.inl ∧ Asc ns := fun M => by
    induction M with
    | nil => exact fun _ _ _ => ⟨[], rfl, .nil⟩
    | cons k M ih =>
      intro h1 h2 h3
      obtain ⟨i, rfl⟩ := h1 k List.mem_cons_self
      obtain ⟨ns, e, a⟩ := ih (fun x hx => h1 x (List.mem_cons_of_mem _ hx)) (List.nodup_cons.mp h2).2 (List.pairwise_cons.mp h3).2
      refine ⟨i :: ns, by rw [e]; rfl, List.pairwise_cons.mpr ⟨fun j hj => ?_, a⟩⟩
      have hm : (.inl j : Key) ∈ M := by rw [e]; exact List.mem_map_of_mem hj
      have q := (List.pairwise_cons.mp h3).1 _ hm
      have q' : decide (j < i) = false := by rw [← lt_int]; exact q
      have q2 : ¬ j < i := of_decide_eq_false q'
      have ne : j ≠ i := fun z => (List.nodup_cons.mp h2).1 (by rw [← z]; exact hm)
      omega
  obtain ⟨ns, e, a⟩ := go M hM ndM pw
  refine ⟨ns, ?_, a, fun i => ?_⟩
  · rw [e, List.map_map]
    rfl
  · rw [← mem, e]
    constructor
    · exact fun h => List.mem_map_of_mem h
    · intro h
      obtain ⟨j, h1, h2⟩ := List.mem_map.mp h
      cases h2
      exact h1
theorem put_mem {ks : List Key} {k x : Key} : x ∈ SetX.put ks k ↔ x ∈ ks ∨ x = k := by
  by_cases h : k ∈ ks
  · rw [SetX.put_old h]
    exact ⟨.inl, fun z => z.elim id fun e => e ▸ h⟩
  · rw [SetX.put_new h, List.mem_append, List.mem_singleton]
theorem fold_put_mem : ∀ (xs acc : List Key) (x : Key), x ∈ xs.foldl SetX.put acc ↔ x ∈ acc ∨ x ∈ xs
  | [], acc, x => by simp
  | k :: xs, acc, x => by
    rw [List.foldl_cons, fold_put_mem xs, put_mem, List.mem_cons]
    constructor
    · rintro ((h | h) | h)
      · exact .inl h
      · exact .inr (.inl h)
      · exact .inr (.inr h)
    · rintro (h | h | h)
      · exact .inl (.inl h)
      · exact .inl (.inr h)
      · exact .inr h
theorem put_len {ks : List Key} {k : Key} : (SetX.put ks k).length ≤ ks.length + 1 := by
  by_cases h : k ∈ ks
  · rw [SetX.put_old h]; omega
  · rw [SetX.put_new h]; simp
theorem fold_put_len : ∀ (xs acc : List Key), (xs.foldl SetX.put acc).length ≤ acc.length + xs.length
  | [], acc => by simp
  | k :: xs, acc => by
    have h1 := fold_put_len xs (SetX.put acc k)
    have h2 := put_len (ks := acc) (k := k)
    rw [List.foldl_cons, List.length_cons]
    omega
section
variable {P : Program} {w : World} {K : PySem.W.Frag} {mg : Str → Option Value} {base : Heap}
/-- the machine's parts stand in the instance's fields (it may not be whole yet) -/
def Pre (K : PySem.W.Frag) (H : Hp) (t : Addr) (bs : List Bg) (ms : List Mv) (es : List Bg) : Prop := ∃ (dx : Addr) (fs : List (Str × V)) (b m e : Addr) (bv mv ev : List V), H t = some (.ins (aTr K) dx fs) ∧ fs.lookup ("begins" : Str) = some (.ref b) ∧ fs.lookup ("moves" : Str) = some (.ref m) ∧ fs.lookup ("ends" : Str) = some (.ref e) ∧
  SqT K H b bv ∧ SqT K H m mv ∧ SqT K H e ev ∧ Rw Bg.vs K H bv bs ∧ Rw Mv.vs K H mv ms ∧ Rw Bg.vs K H ev es ∧ bs.length ≤ 9 ∧ ms.length ≤ 9 ∧ es.length ≤ 9
theorem Pre.same {H H' : Hp} {t : Addr} {bs : List Bg} {ms : List Mv} {es : List Bg} (h : Pre K H t bs ms es) (s : Same H H') : Pre K H' t bs ms es := by
  obtain ⟨dx, fs, b, m, e, bv, mv, ev, h1, h2, h3, h4, h5, h6, h7, h8, h9, h10, h11⟩ := h
  have i := Im.same s
  exact ⟨dx, fs, b, m, e, bv, mv, ev, s _ _ h1, h2, h3, h4, i.sq h5, i.sq h6, i.sq h7, i.rw h8, i.rw h9, i.rw h10, h11⟩
def sp_states (end_ : Bool) (K : PySem.W.Frag) : Sp := fun vs H Q _ => ∃ (t : Addr) (bs : List Bg) (ms : List Mv) (es : List Bg), vs = [.ref t] ∧ Pre K H t bs ms es ∧ ∀ H' p ns, Same H H' → H p = none → SqT K H' p (nums ns) → Asc ns → (∀ i, i ∈ ns ↔ ∃ g ∈ (if end_ then es else bs), g.s = i) → Q (.ref p) H'
abbrev sp_begin_states (K : PySem.W.Frag) : Sp := sp_states false K
abbrev sp_end_states (K : PySem.W.Frag) : Sp := sp_states true K
theorem setQ_dst {H : Hp} {P : Program} {w : World} {D : Addr} {ks ks' : List Key} {o : HO} (h : H D = some (SetX.SetQO P w D ks)) : Im H (upd H D o) := ⟨fun b xs e => by rw [upd_ne (ne_of e h (by intro z; cases z))]; exact e, fun b q v e => by rw [upd_ne (ne_of e h (by intro z; cases z))]; exact e⟩
def N_begin_states : List Str := ["translator", "state", "word"]
theorem sc_begin_states : FnScope N_begin_states ["translator"] (defScope s_begin_states) := ⟨rfl, rfl, rfl, by decide +kernel, rfl, by decide +kernel, by decide +kernel⟩
def N_end_states : List Str := ["translator", "state", "word"]
theorem sc_end_states : FnScope N_end_states ["translator"] (defScope s_end_states) := ⟨rfl, rfl, rfl, by decide +kernel, rfl, by decide +kernel, by decide +kernel⟩
theorem C_begin_states (c : Cn K mg) : Cal P w K mg base 1 "begin_states" (sp_begin_states K) [] := by
  refine mkCal (F_begin_states c) (g_begin_states c) sc_begin_states (fun _ _ _ _ _ _ us hl => match us, hl with | [_], _ => rfl) (fun vs H Q E h => ?_) (fun cdv A outer s H vs Q E hr h => ?_)
  · obtain ⟨t, bs, ms, es, rfl, _⟩ := h
    rfl
  · obtain ⟨t, bs, ms, es, rfl, ht, q⟩ := h
    have hu : _ < cLine := hr.units
    refine ⟨_, (pss_one (ps_ret (pe_callTy (tupOf K) (by rfl) (m_tuple c) (by decide +kernel) (pa_cons (pe_callB (SetX.cr_sortedQ rfl hu) (by rfl) (m_sorted c) (by decide +kernel) (pa_cons (SetX.pe_sq (own := [("state", 1), ("word", 2)]) rfl sc_begin_states.nd (piT K (fldK K (pv 0) rfl)) (blkOk_by (own := [("state", 1), ("word", 2)]) (N := N_begin_states) (sc := defScope s_begin_states) (by decide +kernel)) (fun _ _ _ _ _ => (pgT K (n := 2) rfl (pgs_cons (pg_name (i := 1) sc_begin_states.nd rfl (.inl rfl)) (pgs_cons (pg_name (i := 2) sc_begin_states.nd rfl (.inl rfl)) pgs_nil)))) (fun _ _ _ _ _ => pts_nil) (fun _ _ _ _ _ => (pv 1))) pa_nil)) pa_nil)))), ?_⟩
    have ht' := ht
    obtain ⟨dx, fs, b, m, e, bv, mv, ev, h1, h2, h3, h4, h5, h6, h7, h8, h9, h10, hl1, hl2, hl3⟩ := ht'
    refine ⟨_, rfl, t, aTr K, dx, fs, _, rfl, h1, cl_Translator c, n_Translator_begins c, h2, b, rfl, ⟨_, h5⟩, fun D hD => SetX.sq_tup (K := K) (a := b) (xs := bv) (fun i H' => Same H H' ∧ H D = none ∧ H' D = some (SetX.SetQO P w D (((bs.take i).map fun g => (.inl g.s : Key)).foldl SetX.put []))) ⟨same_new hD, hD, upd_same⟩ (fun i H' _ h => sqT_same h5 h.1) ?_ ?_⟩
    · rintro i x H1 hi ⟨s1, d1, d2⟩
      obtain ⟨g, a, hg, rfl, hrow⟩ := h8.get hi
      have et : bs.take (i + 1) = bs.take i ++ [g] := by rw [List.take_add_one, hg]; rfl
      refine ⟨a, _, rfl, sqT_same hrow s1, rfl, _, _, rfl, _, _, rfl, rfl, rfl, ?_⟩
      refine ⟨_, rfl, .inl g.s, _, rfl, d2, ?_, Same.wr s1 d1, d1, ?_⟩
      · have := fold_put_len ((bs.take i).map fun g => (.inl g.s : Key)) []
        rw [List.length_nil, Nat.zero_add, List.length_map, List.length_take] at this
        unfold scanBound
        omega
      · rw [upd_same, et, List.map_append, List.foldl_append]
        rfl
    · rintro H1 ⟨s1, d1, d2⟩
      have el : bs.take bv.length = bs := List.take_of_length_le (by rw [h8.1]; exact Nat.le_refl _)
      rw [el] at d2
      refine ⟨D, _, rfl, d2, ?_, fun p M hp pm nd pw => ?_⟩
      · intro d hd d' hd'
        obtain ⟨k, hk, rfl⟩ := List.mem_map.mp hd
        obtain ⟨k', hk', rfl⟩ := List.mem_map.mp hd'
        rcases (fold_put_mem _ _ _).mp hk with z | z
        · cases z
        rcases (fold_put_mem _ _ _).mp hk' with z' | z'
        · cases z'
        obtain ⟨g, _, rfl⟩ := List.mem_map.mp z
        obtain ⟨g', _, rfl⟩ := List.mem_map.mp z'
        rfl
      · obtain ⟨ns, e1, asc, mm⟩ := asc_of pm nd pw fun k hk => by
          rcases (fold_put_mem _ _ _).mp hk with z | z
          · cases z
          obtain ⟨g, _, rfl⟩ := List.mem_map.mp z
          exact ⟨g.s, rfl⟩
        rw [e1]
        refine ⟨p, _, rfl, .inl ⟨SqL.of upd_same, fun l hl => ?_⟩⟩
        have sp := same_new (o := .lst (nums ns)) hp
        have sl := same_new (o := .tup (nums ns)) hl
        refine q _ l ns ((s1.trans sp).trans sl) ((s1.trans sp).free hl) (SqT.of upd_same) asc fun i => ?_
        rw [mm, fold_put_mem]
        constructor
        · rintro (z | z)
          · cases z
          · obtain ⟨g, h1, h2⟩ := List.mem_map.mp z
            cases h2
            exact ⟨g, h1, rfl⟩
        · rintro ⟨g, h1, rfl⟩
          exact .inr (List.mem_map.mpr ⟨g, h1, rfl⟩)
theorem C_end_states (c : Cn K mg) : Cal P w K mg base 1 "end_states" (sp_end_states K) [] := by
  refine mkCal (F_end_states c) (g_end_states c) sc_end_states (fun _ _ _ _ _ _ us hl => match us, hl with | [_], _ => rfl) (fun vs H Q E h => ?_) (fun cdv A outer s H vs Q E hr h => ?_)
  · obtain ⟨t, bs, ms, es, rfl, _⟩ := h
    rfl
  · obtain ⟨t, bs, ms, es, rfl, ht, q⟩ := h
    have hu : _ < cLine := hr.units
    refine ⟨_, (pss_one (ps_ret (pe_callTy (tupOf K) (by rfl) (m_tuple c) (by decide +kernel) (pa_cons (pe_callB (SetX.cr_sortedQ rfl hu) (by rfl) (m_sorted c) (by decide +kernel) (pa_cons (SetX.pe_sq (own := [("state", 1), ("word", 2)]) rfl sc_end_states.nd (piT K (fldK K (pv 0) rfl)) (blkOk_by (own := [("state", 1), ("word", 2)]) (N := N_end_states) (sc := defScope s_end_states) (by decide +kernel)) (fun _ _ _ _ _ => (pgT K (n := 2) rfl (pgs_cons (pg_name (i := 1) sc_end_states.nd rfl (.inl rfl)) (pgs_cons (pg_name (i := 2) sc_end_states.nd rfl (.inl rfl)) pgs_nil)))) (fun _ _ _ _ _ => pts_nil) (fun _ _ _ _ _ => (pv 1))) pa_nil)) pa_nil)))), ?_⟩
    have ht' := ht
    obtain ⟨dx, fs, b, m, e, bv, mv, ev, h1, h2, h3, h4, h5, h6, h7, h8, h9, h10, hl1, hl2, hl3⟩ := ht'
    refine ⟨_, rfl, t, aTr K, dx, fs, _, rfl, h1, cl_Translator c, n_Translator_ends c, h4, e, rfl, ⟨_, h7⟩, fun D hD => SetX.sq_tup (K := K) (a := e) (xs := ev) (fun i H' => Same H H' ∧ H D = none ∧ H' D = some (SetX.SetQO P w D (((es.take i).map fun g => (.inl g.s : Key)).foldl SetX.put []))) ⟨same_new hD, hD, upd_same⟩ (fun i H' _ h => sqT_same h7 h.1) ?_ ?_⟩
    · rintro i x H1 hi ⟨s1, d1, d2⟩
      obtain ⟨g, a, hg, rfl, hrow⟩ := h10.get hi
      have et : es.take (i + 1) = es.take i ++ [g] := by rw [List.take_add_one, hg]; rfl
      refine ⟨a, _, rfl, sqT_same hrow s1, rfl, _, _, rfl, _, _, rfl, rfl, rfl, ?_⟩
      refine ⟨_, rfl, .inl g.s, _, rfl, d2, ?_, Same.wr s1 d1, d1, ?_⟩
      · have := fold_put_len ((es.take i).map fun g => (.inl g.s : Key)) []
        rw [List.length_nil, Nat.zero_add, List.length_map, List.length_take] at this
        unfold scanBound
        omega
      · rw [upd_same, et, List.map_append, List.foldl_append]
        rfl
    · rintro H1 ⟨s1, d1, d2⟩
      have el : es.take ev.length = es := List.take_of_length_le (by rw [h10.1]; exact Nat.le_refl _)
      rw [el] at d2
      refine ⟨D, _, rfl, d2, ?_, fun p M hp pm nd pw => ?_⟩
      · intro d hd d' hd'
        obtain ⟨k, hk, rfl⟩ := List.mem_map.mp hd
        obtain ⟨k', hk', rfl⟩ := List.mem_map.mp hd'
        rcases (fold_put_mem _ _ _).mp hk with z | z
        · cases z
        rcases (fold_put_mem _ _ _).mp hk' with z' | z'
        · cases z'
        obtain ⟨g, _, rfl⟩ := List.mem_map.mp z
        obtain ⟨g', _, rfl⟩ := List.mem_map.mp z'
        rfl
      · obtain ⟨ns, e1, asc, mm⟩ := asc_of pm nd pw fun k hk => by
          rcases (fold_put_mem _ _ _).mp hk with z | z
          · cases z
          obtain ⟨g, _, rfl⟩ := List.mem_map.mp z
          exact ⟨g.s, rfl⟩
        rw [e1]
        refine ⟨p, _, rfl, .inl ⟨SqL.of upd_same, fun l hl => ?_⟩⟩
        have sp := same_new (o := .lst (nums ns)) hp
        have sl := same_new (o := .tup (nums ns)) hl
        refine q _ l ns ((s1.trans sp).trans sl) ((s1.trans sp).free hl) (SqT.of upd_same) asc fun i => ?_
        rw [mm, fold_put_mem]
        constructor
        · rintro (z | z)
          · cases z
          · obtain ⟨g, h1, h2⟩ := List.mem_map.mp z
            cases h2
            exact ⟨g, h1, rfl⟩
        · rintro ⟨g, h1, rfl⟩
          exact .inr (List.mem_map.mpr ⟨g, h1, rfl⟩)
end
end K86
end
section
set_option maxHeartbeats 4000000
namespace K86
open PySem PySem.Spec PyProof.Rows L2
open C8 (Cal Met Mak pe_c pe_mk pe_mt pe_mt0)
/-- what is reached from ss by the links ps -/
inductive Reach (ps : List (Int × Int)) (ss : List Int) : Int → Prop
  | base {x : Int} : x ∈ ss → Reach ps ss x
  | step {x y : Int} : Reach ps ss x → (x, y) ∈ ps → Reach ps ss y
theorem Reach.perm {ps ps' : List (Int × Int)} {ss : List Int} {x : Int} (h : Reach ps ss x) (e : ∀ p, p ∈ ps → p ∈ ps') : Reach ps' ss x := by
  induction h with
  | base h => exact .base h
  | step _ h ih => exact .step ih (e _ h)
/-- the keys ks of a set kept as a dict -/
structure DS (D : List (Key × V)) (ks : List Int) : Prop where
  nd : ks.Nodup
  keys : D.map (·.1) = ks.map Sum.inl
theorem DS.has {D : List (Key × V)} {ks : List Int} (h : DS D ks) (x : Int) : (valV D (.inl x)).isSome = decide (x ∈ ks) := by
  by_cases hx : x ∈ ks
  · rw [decide_eq_true hx]
    exact valV_mem.mpr (by rw [h.keys]; exact List.mem_map_of_mem hx)
  · rw [decide_eq_false hx]
    cases e : (valV D (.inl x)).isSome with
    | false => rfl
    | true =>
      have := valV_mem.mp e
      rw [h.keys] at this
      obtain ⟨y, h1, h2⟩ := List.mem_map.mp this
      cases h2
      exact absurd h1 hx
theorem DS.put {D : List (Key × V)} {ks : List Int} (h : DS D ks) {x : Int} (hx : x ∉ ks) (v : V) : DS (putK D (.inl x) v) (ks ++ [x]) := by
  have hn : valV D (.inl x) = none := by
    have := h.has x
    rw [decide_eq_false hx] at this
    cases e : valV D (.inl x) with
    | none => rfl
    | some y => rw [e] at this; cases this
  rw [putK_new v hn]
  refine ⟨?_, ?_⟩
  · rw [List.nodup_append]
    exact ⟨h.nd, by simp, fun a ha b hb e => hx (by simp at hb; rw [← hb, ← e]; exact ha)⟩
  · rw [List.map_append, List.map_append, h.keys]
    rfl
def src (s : Int) (p : Int × Int) : Bool := decide (p.1 = s)
section
variable {P : Program} {w : World} {K : PySem.W.Frag} {mg : Str → Option Value} {base : Heap}
def PairAt (H : Hp) (v : V) (p : Int × Int) : Prop := ∃ t, v = .ref t ∧ H t = some (.tup [.int p.1, .int p.2])
theorem reach_mem {ps : List (Int × Int)} {ss : List Int} {x : Int} (h : Reach ps ss x) : x ∈ ss ++ ps.map (·.2) := by
  cases h with
  | base h => exact List.mem_append_left _ h
  | step _ h => exact List.mem_append_right _ (List.mem_map.mpr ⟨_, h, rfl⟩)
/-- from the first place on, as long as the source is x: all links of x -/
theorem links_of {rs : List (Int × Int)} (srt : rs.Pairwise (fun a b => a.1 ≤ b.1)) {x : Int} {q0 q : Nat} (h0 : q0 = (rs.findIdx? (src x)).getD rs.length) (h1 : q0 ≤ q) (h2 : ∀ z, rs[q]? = some z → z.1 ≠ x) {y : Int} (hm : (x, y) ∈ rs) : y ∈ ((rs.take q).drop q0).map (·.2) := by
  obtain ⟨j, hj⟩ := List.mem_iff_getElem?.mp hm
  have jl := (List.getElem?_eq_some_iff.mp hj).1
  have ej : rs[j] = (x, y) := (List.getElem?_eq_some_iff.mp hj).2
  cases ef : rs.findIdx? (src x) with
  | none =>
    have := List.findIdx?_eq_none_iff.mp ef _ hm
    simp [src] at this
  | some i =>
    rw [ef] at h0
    have h0' : q0 = i := h0
    subst h0'
    obtain ⟨il, e1, e2⟩ := List.findIdx?_eq_some_iff_getElem.mp ef
    have hij : q0 ≤ j := by
      refine Nat.not_lt.mp fun z => ?_
      have := e2 j z
      rw [ej] at this
      simp [src] at this
    have e1' : rs[q0].1 = x := of_decide_eq_true e1
    have pw := List.pairwise_iff_getElem.mp srt
    have hjq : j < q := by
      refine Nat.not_le.mp fun z => ?_
      have ql : q < rs.length := by omega
      have ne := h2 rs[q] (List.getElem?_eq_getElem ql)
      have a1 : rs[q0].1 ≤ rs[q].1 := by
        by_cases e : q0 = q
        · subst e; exact Int.le_refl _
        · exact pw q0 q il ql (by omega)
      have a2 : rs[q].1 ≤ rs[j].1 := by
        by_cases e : q = j
        · subst e; exact Int.le_refl _
        · exact pw q j ql jl (by omega)
      rw [ej] at a2
      have a2' : rs[q].1 ≤ x := a2
      omega
    refine List.mem_map.mpr ⟨(x, y), ?_, rfl⟩
    refine List.mem_iff_getElem?.mpr ⟨j - q0, ?_⟩
    rw [List.getElem?_drop, List.getElem?_take_of_lt (by omega)]
    have : q0 + (j - q0) = j := by omega
    rw [this]
    exact hj
def N_closed_over : List Str := ["states", "links", "found", "firsts", "rows", "waiting", "at", "place", "source", "target", "state"]
theorem sc_closed_over : FnScope N_closed_over ["states", "links"] (defScope s_closed_over) := ⟨rfl, rfl, rfl, by decide +kernel, rfl, by decide +kernel, by decide +kernel⟩
def sp_closed_over (K : PySem.W.Frag) : Sp := fun vs H Q _ => ∃ (p l : Addr) (ss : List Int) (lv : List V) (ps : List (Int × Int)), vs = [.ref p, .ref l] ∧ SqT K H p (nums ss) ∧ H l = some (.lst lv) ∧ Paired (PairAt H) lv ps ∧ ss.length ≤ 9 ∧ ps.length ≤ 9 ∧
  ∀ H' d D ks, Same H H' → H d = none → H' d = some (.dK D) → DS D ks → (∀ x, x ∈ ks ↔ Reach ps ss x) → Q (.ref d) H'
def kOf (H : Hp) (v : V) : Int × Int := match v with
  | .ref t => (match H t with
    | some (.tup [.int a, .int b]) => (a, b)
    | _ => (0, 0))
  | _ => (0, 0)
theorem kOf_eq {H : Hp} {v : V} {p : Int × Int} (h : PairAt H v p) : kOf H v = p := by
  obtain ⟨t, rfl, e⟩ := h
  unfold kOf
  simp only [e]
theorem paired_map {H : Hp} : ∀ {lv : List V} {ps : List (Int × Int)}, Paired (PairAt H) lv ps → lv.map (kOf H) = ps ∧ ∀ v ∈ lv, PairAt H v (kOf H v)
  | _, _, .nil => ⟨rfl, fun v h => nomatch h⟩
  | _, _, .cons r t => by
    obtain ⟨h1, h2⟩ := paired_map t
    refine ⟨by rw [List.map_cons, kOf_eq r, h1], fun v hv => ?_⟩
    rcases List.mem_cons.mp hv with e | e
    · subst e
      rw [kOf_eq r]
      exact r
    · exact h2 v e
theorem C_closed_over (c : Cn K mg) : Cal P w K mg base 1 "closed_over" (sp_closed_over K) [] := by
  refine mkCal (F_closed_over c) (g_closed_over c) sc_closed_over (fun _ _ _ _ _ _ us hl => match us, hl with | [_, _], _ => rfl) (fun vs H Q E h => ?_) (fun cdv A outer s H vs Q E hr h => ?_)
  · obtain ⟨p, l, ss, lv, ps, rfl, _⟩ := h
    rfl
  · obtain ⟨p, l, ss, lv, ps, rfl, hp, hl, pr, hs9, hp9, q⟩ := h
    have hu := hu_of hr
    obtain ⟨em, at_⟩ := paired_map pr
    refine ⟨_, (pss_cons (ps_set (i := 2) sc_closed_over.nd rfl (.inl rfl) pe_dnewK)
      (pss_cons (ps_set (i := 3) sc_closed_over.nd rfl (.inl rfl) pe_dnewK)
      (pss_cons (ps_set (i := 4) sc_closed_over.nd rfl (.inl rfl) (pe_callB cr_sortedPO (by rfl) (m_sorted c) (by decide +kernel) (pa_cons (pv 1) pa_nil)))
      (pss_cons (ps_for PassesOwn.never rfl (pi_enum (by rfl) (m_enumerate c) (pa_cons (pv 4) pa_nil)) (pgT K (n := 2) rfl (pgs_cons (pg_name (i := 7) sc_closed_over.nd rfl (.inl rfl)) (pgs_cons (pgT K (n := 2) rfl (pgs_cons (pg_name (i := 8) sc_closed_over.nd rfl (.inl rfl)) (pgs_cons (pg_name (i := 9) sc_closed_over.nd rfl (.inl rfl)) pgs_nil))) pgs_nil)))
        (pss_one (ps_if (pt_cmp (pc_dnotin hu (pv 8) (pv 3)))
          (pss_one (ps_dput hu (pv 3) (pv 8) (pv 7) rfl))
          pss_nil)))
      (pss_cons (ps_set (i := 5) sc_closed_over.nd rfl (.inl rfl) (pe_lst (StX.pa_star (pv 0) pa_nil)))
      (pss_cons (ps_set (i := 6) sc_closed_over.nd rfl (.inl rfl) pe_int)
      (pss_cons (ps_while PassesOwn.never (pt_cmpR op_lt (pv 6) (pe_callB (lenS K) (by rfl) (m_len c) (by decide +kernel) (pa_cons (pv 5) pa_nil)) (nomark _))
        (pss_cons (ps_par (i := 10) (j := 6) rfl sc_closed_over.nd rfl rfl (by decide) rfl rfl (pa_cons (pe_ix (ixL K) (pv 5) (pv 6) (fun _ _ => rfl)) (pa_cons (pe_op op_add (pv 6) pe_int) pa_nil)) (by rfl))
        (pss_one (ps_if (pt_cmp (pc_dnotin hu (pv 10) (pv 2)))
          (pss_cons (ps_dput hu (pv 2) (pv 10) pe_bl rfl)
          (pss_cons (ps_set (i := 7) sc_closed_over.nd rfl (.inl rfl) (pe_dget2 hu (pv 3) (pv 10) (pe_callB (lenS K) (by rfl) (m_len c) (by decide +kernel) (pa_cons (pv 4) pa_nil)) ⟨rfl, rfl, rfl, rfl⟩))
          (pss_one (ps_while PassesOwn.never (PW.pt (pw_and (pt_cmpR op_lt (pv 7) (pe_callB (lenS K) (by rfl) (m_len c) (by decide +kernel) (pa_cons (pv 4) pa_nil)) (nomark _)) (pw_and1 (pt_cmpR op_eq (pe_ix (ixT K) (pe_ix (ixL K) (pv 4) (pv 7) (fun _ _ => rfl)) pe_int (fun _ _ => rfl)) (pv 10) (nomark _)))))
            (pss_cons (ps_expr (pe_bm PySem.F.plainAttrs_list PySem.F.slot_list_append PySem.F.type_list_append mt_append (pv 5) (pa_cons (pe_ix (ixT K) (pe_ix (ixL K) (pv 4) (pv 7) (fun _ _ => rfl)) pe_int (fun _ _ => rfl)) pa_nil)))
            (pss_one (ps_set (i := 7) sc_closed_over.nd rfl (.inl rfl) (pe_op op_add (pv 7) pe_int))))))))
          pss_nil))))
      (pss_one (ps_ret (pv 2)))))))))), ?_⟩
    intro d hd
    intro f hf
    have s1 := same_new (o := .dK []) hd
    have dd : upd H d (.dK []) d = some (.dK []) := upd_same
    generalize upd H d (.dK []) = H1 at s1 dd hf
    have s2 := same_new (o := .dK []) hf
    have df : upd H1 f (.dK []) f = some (.dK []) := upd_same
    have dd2 := s2 _ _ dd
    have nfd : f ≠ d := (ne_of_none dd hf).symm
    have hf0 : H f = none := s1.free hf
    generalize upd H1 f (.dK []) = H2 at s2 df dd2
    have s02 := s1.trans s2
    refine ⟨_, rfl, l, lv, kOf H, rfl, SqL.of (s02 _ _ hl), fun x hx => ?_, fun ys r srt stb hr0 => ?_⟩
    · obtain ⟨t, e, h⟩ := at_ x hx
      exact ⟨t, e, s02 _ _ h⟩
    have s3 := same_new (o := .lst ys) hr0
    have dr : upd H2 r (.lst ys) r = some (.lst ys) := upd_same
    have df3 := s3 _ _ df
    have dd3 := s3 _ _ dd2
    have hr00 : H r = none := s02.free hr0
    have nrf : r ≠ f := (ne_of_none df hr0).symm
    have nrd : r ≠ d := (ne_of_none dd2 hr0).symm
    generalize upd H2 r (.lst ys) = H3 at s3 dr df3 dd3
    have s03 := s02.trans s3
    have atY : ∀ v ∈ ys, PairAt H v (kOf H v) := fun v hv => at_ v (stb.perm.mem_iff.mp hv)
    have rsl : ys.length ≤ 9 := by rw [stb.perm.length_eq, ← List.length_map (f := kOf H), em]; exact hp9
    have memY : ∀ pq, pq ∈ ys.map (kOf H) ↔ pq ∈ ps := fun pq => by rw [← em]; exact (stb.perm.map _).mem_iff
    have srtY : (ys.map (kOf H)).Pairwise (fun a b => a.1 ≤ b.1) := by
      rw [List.pairwise_map]
      refine List.Pairwise.imp (fun {a b} h => ?_) srt
      have h' : SrtO.lexB (kOf H b) (kOf H a) = false := h
      refine Int.not_lt.mp fun z => ?_
      have : SrtO.lexB (kOf H b) (kOf H a) = true := SrtO.lexB_iff.mpr (.inl z)
      rw [h'] at this
      cases this
    generalize hrs : ys.map (kOf H) = rs at memY srtY
    have rsl2 : rs.length = ys.length := by rw [← hrs, List.length_map]
    have rowAt : ∀ {H' : Hp} {i : Nat} {x : V}, Same H H' → ys[i]? = some x → ∃ t pq, x = .ref t ∧ rs[i]? = some pq ∧ SqT K H' t [.int pq.1, .int pq.2] := fun {H' i x} s hx => by
      obtain ⟨t, e1, e2⟩ := atY x (List.mem_of_getElem? hx)
      exact ⟨t, kOf H x, e1, by rw [← hrs, List.getElem?_map, hx]; rfl, SqT.of (s _ _ e2)⟩
    -- the first places
    refine ⟨_, rfl, r, ys, rfl, SqL.of dr, for_enumL (K := K) (a := r) (xs := ys) (fun i σ H' => Same H H' ∧ H' r = some (.lst ys) ∧ H' d = some (.dK []) ∧ (∃ D, H' f = some (.dK D) ∧ D.length ≤ i ∧ ∀ s, valV D (.inl s) = ((rs.take i).findIdx? (src s)).map fun n => .int (n : Nat)) ∧ ∃ x5 x6 x7 x8 x9 x10, σ = [some (.ref p), some (.ref l), some (.ref d), some (.ref f), some (.ref r), x5, x6, x7, x8, x9, x10])
      ⟨s03, dr, dd3, ⟨[], df3, Nat.le_refl _, fun s => rfl⟩, _, _, _, _, _, _, rfl⟩ (fun i σ H' h => SqL.of h.2.1) ?_ ?_⟩
    · rintro i x T σ H4 hx ⟨s4, e1, e2, ⟨D, e3, dl, dg⟩, x5, x6, x7, x8, x9, x10, rfl⟩ hT
      obtain ⟨t, pq, rfl, hpq, hrow⟩ := rowAt s4 hx
      have sT := same_new (o := .tup [.int (i : Nat), .ref t]) hT
      have hrow5 := sqT_same hrow sT
      have e1' := sT _ _ e1
      have e2' := sT _ _ e2
      have e3' := sT _ _ e3
      have eT : upd H4 T (.tup [.int (i : Nat), .ref t]) T = some (.tup [.int (i : Nat), .ref t]) := upd_same
      have s5 := s4.trans sT
      generalize upd H4 T (.tup [.int (i : Nat), .ref t]) = H5 at sT hrow5 e1' e2' e3' s5 eT
      have et : rs.take (i + 1) = rs.take i ++ [pq] := by rw [List.take_add_one, hpq]; rfl
      have tl : (rs.take i).length = i := by
        rw [List.length_take]
        have := (List.getElem?_eq_some_iff.mp hpq).1
        omega
      refine ⟨T, _, rfl, SqT.of eT, rfl, _, _, rfl, _, _, rfl, t, _, rfl, hrow5, rfl, _, _, rfl, _, _, rfl, rfl, rfl, ?_⟩
      refine ⟨_, rfl, _, rfl, f, _, rfl, DGet.k (k := Sum.inl pq.1) e3', _, rfl, ?_⟩
      rw [dg pq.1]
      have step : ∀ s, (rs.take (i + 1)).findIdx? (src s) = ((rs.take i).findIdx? (src s)).or (if pq.1 = s then some i else none) := fun s => by
        rw [et, List.findIdx?_append, tl]
        congr 1
        by_cases hs : pq.1 = s
        · rw [if_pos hs]
          simp [src, hs]
        · rw [if_neg hs]
          simp [src, hs]
      cases ef : (rs.take i).findIdx? (src pq.1) with
      | none =>
        refine ⟨_, rfl, _, rfl, _, rfl, f, _, rfl, DPut.k (k := Sum.inl pq.1) e3' (big (by have := (List.getElem?_eq_some_iff.mp hx).1; omega)), ?_⟩
        refine ⟨Same.wr s5 hf0, ?_, ?_, ⟨_, upd_same, ?_, fun s => ?_⟩, _, _, _, _, _, _, rfl⟩
        · rw [upd_ne nrf]; exact e1'
        · rw [upd_ne nfd.symm]; exact e2'
        · have := length_putK D (.inl pq.1) (V.int (i : Nat))
          omega
        · rw [valV_put, step s, dg s]
          by_cases hs : s = pq.1
          · subst hs
            rw [if_pos rfl, ef, if_pos rfl]
            rfl
          · rw [if_neg (fun z => hs (Sum.inl.inj z)), if_neg (fun z => hs z.symm), Option.or_none]
      | some n =>
        refine iteF ?_
        refine ⟨s5, e1', e2', ⟨D, e3', by omega, fun s => ?_⟩, _, _, _, _, _, _, rfl⟩
        rw [step s, dg s]
        by_cases hs : pq.1 = s
        · subst hs
          rw [ef]
          rfl
        · rw [if_neg hs, Option.or_none]
    rintro σ H4 ⟨s4, e1, e2, ⟨F1, e3, dl, dg⟩, x5, x6, x7, x8, x9, x10, rfl⟩
    rw [← rsl2, List.take_length] at dg
    refine ⟨_, rfl, p, _, rfl, .inl (sqT_same hp s4), (by show (nums ss ++ []).length ≤ sizeLine; rw [List.append_nil, nums_len]; exact big' (by omega)), fun wt hw0 => ?_⟩
    have s5 := same_new (o := .lst (nums ss ++ [])) hw0
    have dw5 : upd H4 wt (.lst (nums ss ++ [])) wt = some (.lst (nums ss)) := by rw [upd_same, List.append_nil]
    have e1' := s5 _ _ e1
    have e2' := s5 _ _ e2
    have e3' := s5 _ _ e3
    have hwt0 : H wt = none := s4.free hw0
    have nwr : wt ≠ r := (ne_of_none e1 hw0).symm
    have nwd : wt ≠ d := (ne_of_none e2 hw0).symm
    have nwf : wt ≠ f := (ne_of_none e3 hw0).symm
    generalize upd H4 wt (.lst (nums ss ++ [])) = H5 at s5 dw5 e1' e2' e3'
    have s05 := s4.trans s5
    let W : Nat → L2.St → Hp → Prop := fun m σ H' => ∃ (wl : List Int) (D : List (Key × V)) (ks : List Int) (at_ : Nat) (x7 x8 x9 x10 : Option V), σ = [some (.ref p), some (.ref l), some (.ref d), some (.ref f), some (.ref r), some (.ref wt), some (.int (at_ : Nat)), x7, x8, x9, x10] ∧ Same H H' ∧ H' r = some (.lst ys) ∧ H' f = some (.dK F1) ∧ H' d = some (.dK D) ∧ DS D ks ∧ H' wt = some (.lst (nums wl)) ∧ at_ ≤ wl.length ∧ (∀ x ∈ wl, Reach ps ss x) ∧ (∀ x ∈ ks, Reach ps ss x) ∧ (∀ x ∈ wl.take at_, x ∈ ks) ∧ (∀ x ∈ ss, x ∈ wl) ∧ (∀ x y, x ∈ ks → (x, y) ∈ ps → y ∈ wl) ∧ wl.length ≤ 9 + 9 * ks.length ∧ m = (18 - ks.length) * 10 + (wl.length - at_)
    have ks18 : ∀ {ks : List Int}, ks.Nodup → (∀ x ∈ ks, Reach ps ss x) → ks.length ≤ 18 := fun {ks} nd h => by
      have := nd.length_le_of_subset (l₂ := ss ++ ps.map (·.2)) fun x hx => reach_mem (h x hx)
      rw [List.length_append, List.length_map] at this
      omega
    refine ⟨W, ⟨_, ss, [], [], 0, _, _, _, _, rfl, s05, e1', e3', e2', ⟨by simp, rfl⟩, dw5, Nat.zero_le _, fun x hx => .base hx, fun x hx => (nomatch hx), fun x hx => (by simp at hx), fun x hx => hx, fun x y hx => (nomatch hx), (by simp; omega), rfl⟩, ?_⟩
    rintro m σ H6 ⟨wl, D, ks, at_, y7, y8, y9, y10, rfl, s6, r6, f6, d6, ds, w6, al, wr, kr, tk, sw, cl, wll, rfl⟩
    have k18 := ks18 ds.nd kr
    refine ⟨_, rfl, _, rfl, wt, _, rfl, .inl (SqL.of w6), _, _, rfl, rfl, _, rfl, ?_⟩
    refine iteD (fun hlt => ?_) (fun hge => ?_)
    · rw [nums_len] at hlt
      have hlt' : at_ < wl.length := by omega
      obtain ⟨x, hx⟩ : ∃ x, wl[at_]? = some x := ⟨_, List.getElem?_eq_getElem hlt'⟩
      refine ⟨fun σ' H' => ∃ m', m' < (18 - ks.length) * 10 + (wl.length - at_) ∧ W m' σ' H', fun σ' H' h => h, ?_⟩
      have hxn : (nums wl)[at_]? = some (.int x) := by unfold nums; rw [List.getElem?_map, hx]; rfl
      refine ⟨_, rfl, _, rfl, wt, _, _, _, rfl, rfl, SqL.of w6, atI_nat hxn, _, rfl, _, _, rfl, rfl, _, _, rfl, ?_⟩
      refine ⟨_, rfl, _, rfl, d, _, rfl, DGet.k (k := Sum.inl x) d6, _, rfl, ?_⟩
      rw [ds.has x]
      have xr := wr x (List.mem_of_getElem? hx)
      have et : wl.take (at_ + 1) = wl.take at_ ++ [x] := by rw [List.take_add_one, hx]; rfl
      refine iteND (fun hnk => ?_) (fun hk => ?_)
      · refine ⟨_, rfl, _, rfl, d, _, rfl, DPut.k (k := Sum.inl x) d6 (big (by have := congrArg List.length ds.keys; rw [List.length_map, List.length_map] at this; omega)), ?_⟩
        have ds7 := ds.put hnk (.bl true)
        have s7 := Same.wr (o := .dK (putK D (.inl x) (.bl true))) s6 hd
        have d7 : upd H6 d (.dK (putK D (.inl x) (.bl true))) d = some (.dK (putK D (.inl x) (.bl true))) := upd_same
        have r7 : upd H6 d (.dK (putK D (.inl x) (.bl true))) r = some (.lst ys) := by rw [upd_ne nrd]; exact r6
        have f7 : upd H6 d (.dK (putK D (.inl x) (.bl true))) f = some (.dK F1) := by rw [upd_ne nfd]; exact f6
        have w7 : upd H6 d (.dK (putK D (.inl x) (.bl true))) wt = some (.lst (nums wl)) := by rw [upd_ne nwd]; exact w6
        generalize upd H6 d (.dK (putK D (.inl x) (.bl true))) = H7 at s7 d7 r7 f7 w7
        generalize hq0 : (rs.findIdx? (src x)).getD rs.length = q0
        have kr' : ∀ z ∈ ks ++ [x], Reach ps ss z := fun z hz => by
          rcases List.mem_append.mp hz with h | h
          · exact kr z h
          · have : z = x := by simpa using h
            rw [this]; exact xr
        have k18' := ks18 ds7.nd kr'
        rw [List.length_append, List.length_singleton] at k18'
        have q0l : q0 ≤ rs.length := by
          rw [← hq0]
          cases ef : rs.findIdx? (src x) with
          | none => exact Nat.le_refl _
          | some i => exact Nat.le_of_lt (List.findIdx?_eq_some_iff_getElem.mp ef).1
        refine ⟨_, rfl, f, rfl, .inl ⟨F1, .inl f7⟩, _, rfl, _, rfl, r, _, rfl, .inl (SqL.of r7), _, DGet.k (k := Sum.inl x) f7, ?_⟩
        have ev : (valV F1 (.inl x)).getD (V.int (ys.length : Nat)) = .int (q0 : Nat) := by
          rw [dg x, ← hq0, rsl2]
          cases rs.findIdx? (src x) <;> rfl
        rw [ev]
        -- the links of x
        let W2 : Nat → L2.St → Hp → Prop := fun m σ H' => ∃ (q1 : Nat), σ = [some (.ref p), some (.ref l), some (.ref d), some (.ref f), some (.ref r), some (.ref wt), some (.int ((at_ : Nat) + 1)), some (.int (q1 : Nat)), y8, y9, some (.int x)] ∧ q0 ≤ q1 ∧ q1 ≤ rs.length ∧ Same H H' ∧ H' r = some (.lst ys) ∧ H' f = some (.dK F1) ∧ H' d = some (.dK (putK D (.inl x) (.bl true))) ∧ H' wt = some (.lst (nums (wl ++ ((rs.take q1).drop q0).map (·.2)))) ∧ (∀ z ∈ (rs.take q1).drop q0, z.1 = x) ∧ m = rs.length - q1
        have leave : ∀ (q1 : Nat) (σ : L2.St) (H8 : Hp) m, W2 m σ H8 → (∀ z, rs[q1]? = some z → z.1 ≠ x) → σ[7]? = some (some (.int (q1 : Nat))) → ∃ m', m' < (18 - ks.length) * 10 + (wl.length - at_) ∧ W m' σ H8 := fun q1 σ H8 m hW hz h7 => by
          obtain ⟨q2, rfl, b1, b2, s8, r8, f8, d8, w8, lx, _⟩ := hW
          have e7 : q2 = q1 := by
            have : some (some (V.int (q2 : Nat))) = some (some (.int (q1 : Nat))) := h7
            injection this with this
            injection this with this
            injection this with this
            omega
          subst e7
          have gl : (((rs.take q2).drop q0).map (·.2)).length ≤ 9 := by
            rw [List.length_map, List.length_drop, List.length_take]
            omega
          refine ⟨_, ?_, wl ++ ((rs.take q2).drop q0).map (·.2), _, ks ++ [x], at_ + 1, _, _, _, _, rfl, s8, r8, f8, d8, ds7, w8, ?_, fun z hz' => ?_, kr', fun z hz' => ?_, fun z hz' => List.mem_append_left _ (sw z hz'), fun z y hz' hy => ?_, ?_, rfl⟩
          · rw [List.length_append, List.length_append, List.length_singleton]
            omega
          · rw [List.length_append]; omega
          · rcases List.mem_append.mp hz' with h | h
            · exact wr z h
            · obtain ⟨pq, h1, h2⟩ := List.mem_map.mp h
              have h3 := lx pq h1
              have h4 := (memY pq).mp (List.mem_of_mem_take (List.mem_of_mem_drop h1))
              refine .step xr ?_
              rw [← h3, ← h2]
              exact h4
          · rw [List.take_append_of_le_length (by omega), et] at hz'
            rcases List.mem_append.mp hz' with h | h
            · exact List.mem_append_left _ (tk z h)
            · exact List.mem_append_right _ h
          · rcases List.mem_append.mp hz' with h | h
            · exact List.mem_append_left _ (cl z y h hy)
            · have : z = x := by simpa using h
              subst this
              exact List.mem_append_right _ (links_of srtY hq0.symm b1 hz ((memY _).mpr hy))
          · rw [List.length_append, List.length_append, List.length_singleton]
            omega
        refine ⟨W2, ⟨_, q0, rfl, Nat.le_refl _, q0l, s7, r7, f7, d7, ?_, fun z hz => ?_, rfl⟩, ?_⟩
        · have : (rs.take q0).drop q0 = [] := List.drop_of_length_le (by rw [List.length_take]; omega)
          rw [this, List.map_nil, List.append_nil]
          exact w7
        · have : (rs.take q0).drop q0 = [] := List.drop_of_length_le (by rw [List.length_take]; omega)
          rw [this] at hz
          cases hz
        rintro m2 σ H8 ⟨q1, rfl, b1, b2, s8, r8, f8, d8, w8, lx, rfl⟩
        refine ⟨_, rfl, _, rfl, r, _, rfl, .inl (SqL.of r8), _, _, rfl, rfl, _, rfl, ?_⟩
        refine iteD (fun ql => ?_) (fun ql => ?_)
        · have ql' : q1 < ys.length := by omega
          have hy1 := List.getElem?_eq_getElem ql'
          obtain ⟨t, pq, et1, hpq, hrow⟩ := rowAt s8 hy1
          rw [et1] at hy1
          refine ⟨_, rfl, _, rfl, r, _, _, _, rfl, rfl, SqL.of r8, atI_nat hy1, _, _, _, _, rfl, rfl, hrow, rfl, _, rfl, rfl, _, rfl, ?_⟩
          refine iteD (fun hx1 => ?_) (fun hx1 => ?_)
          · have hx2 : pq.1 = x := by injection hx1
            refine ⟨fun σ' H' => ∃ m', m' < rs.length - q1 ∧ W2 m' σ' H', fun σ' H' h => h, ?_⟩
            refine ⟨_, rfl, .inl ⟨rfl, _, SqL.of w8⟩, _, rfl, _, rfl, r, _, _, _, rfl, rfl, SqL.of r8, atI_nat hy1, _, _, _, _, rfl, rfl, hrow, rfl, wt, _, _, rfl, rfl, w8, big (by rw [nums_len, List.length_append, List.length_map, List.length_drop, List.length_take]; omega), ?_⟩
            refine ⟨_, rfl, _, _, rfl, rfl, ?_⟩
            refine ⟨rs.length - (q1 + 1), by omega, q1 + 1, rfl, by omega, by omega, Same.wr s8 hwt0, ?_, ?_, ?_, ?_, ?_, rfl⟩
            · rw [upd_ne nwr.symm]; exact r8
            · rw [upd_ne nwf.symm]; exact f8
            · rw [upd_ne nwd.symm]; exact d8
            · rw [upd_same, nums_snoc]
              have e8 : (rs.take (q1 + 1)).drop q0 = (rs.take q1).drop q0 ++ [pq] := by
                rw [List.take_add_one, hpq]
                exact List.drop_append_of_le_length (by rw [List.length_take]; omega)
              rw [e8, List.map_append, List.append_assoc]
              rfl
            · intro z hz
              have e8 : (rs.take (q1 + 1)).drop q0 = (rs.take q1).drop q0 ++ [pq] := by
                rw [List.take_add_one, hpq]
                exact List.drop_append_of_le_length (by rw [List.length_take]; omega)
              rw [e8] at hz
              rcases List.mem_append.mp hz with h | h
              · exact lx z h
              · have : z = pq := by simpa using h
                rw [this]; exact hx2
          · refine leave q1 _ H8 _ ⟨q1, rfl, b1, b2, s8, r8, f8, d8, w8, lx, rfl⟩ (fun z hz => ?_) rfl
            rw [hpq] at hz
            cases hz
            exact fun e => hx1 (by rw [e])
        · refine iteF ?_
          refine leave q1 _ H8 _ ⟨q1, rfl, b1, b2, s8, r8, f8, d8, w8, lx, rfl⟩ (fun z hz => ?_) rfl
          have := (List.getElem?_eq_some_iff.mp hz).1
          omega
      · refine ⟨_, ?_, wl, D, ks, at_ + 1, _, _, _, _, rfl, s6, r6, f6, d6, ds, w6, hlt', wr, kr, fun z hz => ?_, sw, cl, wll, rfl⟩
        · omega
        · rw [et] at hz
          rcases List.mem_append.mp hz with h | h
          · exact tk z h
          · have : z = x := by simpa using h
            rw [this]; exact hk
    · rw [nums_len] at hge
      have el : wl.take at_ = wl := List.take_of_length_le (by omega)
      rw [el] at tk
      refine ⟨_, rfl, q H6 d D ks s6 hd d6 ds fun x => ⟨kr x, fun h => ?_⟩⟩
      induction h with
      | base h => exact tk _ (sw _ h)
      | step _ h ih => exact tk _ (cl _ _ ih h)
end
end K86
end
section
set_option maxHeartbeats 4000000
namespace K86
open PySem PySem.Spec PyProof.Rows L2
open C8 (Cal Met Mak pe_c pe_mk pe_mt pe_mt0)
def fw (ms : List Mv) : List (Int × Int) := ms.map fun m => (m.s, m.t)
def bw (ms : List Mv) : List (Int × Int) := ms.map fun m => (m.t, m.s)
theorem Reach.cong {ps : List (Int × Int)} {ss ss' : List Int} {x : Int} (h : Reach ps ss x) (e : ∀ i, i ∈ ss → i ∈ ss') : Reach ps ss' x := by
  induction h with
  | base h => exact .base (e _ h)
  | step _ h ih => exact .step ih h
def st (bs : List Bg) : List Int := bs.map (·.s)
/-- the useful states, ascending -/
def Usf (bs : List Bg) (ms : List Mv) (es : List Bg) (us : List Int) : Prop := Asc us ∧ ∀ i, i ∈ us ↔ Reach (fw ms) (st bs) i ∧ Reach (bw ms) (st es) i
section
variable {P : Program} {w : World} {K : PySem.W.Frag} {mg : Str → Option Value} {base : Heap}
theorem pairAt_same {H H' : Hp} (s : Same H H') : ∀ {lv : List V} {ps : List (Int × Int)}, Paired (PairAt H) lv ps → Paired (PairAt H') lv ps := fun {lv ps} h => pairImp (fun v p ⟨t, e1, e2⟩ => ⟨t, e1, s _ _ e2⟩) h
theorem pairAt_lst {H : Hp} {D : Addr} {ys : List V} {o : HO} (d : H D = some (.lst ys)) : ∀ {lv : List V} {ps : List (Int × Int)}, Paired (PairAt H) lv ps → Paired (PairAt (upd H D o)) lv ps := fun {lv ps} h => pairImp (fun v p ⟨t, e1, e2⟩ => ⟨t, e1, by rw [upd_ne (ne_of e2 d (by intro z; cases z))]; exact e2⟩) h
def sp_reachd (back : Bool) (K : PySem.W.Frag) : Sp := fun vs H Q _ => ∃ (t : Addr) (bs : List Bg) (ms : List Mv) (es : List Bg), vs = [.ref t] ∧ Pre K H t bs ms es ∧ ∀ H' d D ks, Same H H' → H d = none → H' d = some (.dK D) → DS D ks → (∀ x, x ∈ ks ↔ if back then Reach (bw ms) (st es) x else Reach (fw ms) (st bs) x) → Q (.ref d) H'
abbrev sp_reached_states (K : PySem.W.Frag) : Sp := sp_reachd false K
abbrev sp_hopeful_states (K : PySem.W.Frag) : Sp := sp_reachd true K
def N_reached_states : List Str := ["translator", "move"]
theorem sc_reached_states : FnScope N_reached_states ["translator"] (defScope s_reached_states) := ⟨rfl, rfl, rfl, by decide +kernel, rfl, by decide +kernel, by decide +kernel⟩
def N_hopeful_states : List Str := ["translator", "move"]
theorem sc_hopeful_states : FnScope N_hopeful_states ["translator"] (defScope s_hopeful_states) := ⟨rfl, rfl, rfl, by decide +kernel, rfl, by decide +kernel, by decide +kernel⟩
theorem C_reached_states (c : Cn K mg) : Cal P w K mg base 2 "reached_states" (sp_reached_states K) [] := by
  refine mkCal (F_reached_states c) (g_reached_states c) sc_reached_states (fun _ _ _ _ _ _ us hl => match us, hl with | [_], _ => rfl) (fun vs H Q E h => ?_) (fun cdv A outer s H vs Q E hr h => ?_)
  · obtain ⟨t, bs, ms, es, rfl, _⟩ := h
    rfl
  · obtain ⟨t, bs, ms, es, rfl, ht, q⟩ := h
    refine ⟨_, (pss_one (ps_ret (pe_c (C_closed_over c) hr (by decide) rfl (pa_cons (pe_c (C_begin_states c) hr (by decide) rfl (pa_cons (pv 0) pa_nil)) (pa_cons (pe_lc (own := [("move", 1)]) rfl sc_reached_states.nd (piT K (fldK K (pv 0) rfl)) (blkOk_by (own := [("move", 1)]) (N := N_reached_states) (sc := defScope s_reached_states) (by decide +kernel)) (fun _ _ _ _ _ => (pg_name (i := 1) sc_reached_states.nd rfl (.inl rfl))) (fun _ _ _ _ _ => pts_nil) (fun _ _ _ _ _ => (pe_tup (pa_cons (pe_ix (ixT K) (pv 1) pe_int (fun _ _ => rfl)) (pa_cons (pe_ix (ixT K) (pv 1) pe_int (fun _ _ => rfl)) pa_nil))))) pa_nil))))), ?_⟩
    refine ⟨_, rfl, t, bs, ms, es, rfl, ht, fun H1 pp ns s1 hpp hns asc mm => ?_⟩
    obtain ⟨dx, fs, b, m, e, bv, mv, ev, h1, h2, h3, h4, h5, h6, h7, h8, h9, h10, hl1, hl2, hl3⟩ := ht.same s1
    refine ⟨_, rfl, t, aTr K, dx, fs, _, rfl, h1, cl_Translator c, n_Translator_moves c, h3, m, rfl, ⟨_, h6⟩, fun D hD => lc_tup (K := K) (a := m) (xs := mv) (fun i H' => Same H1 H' ∧ H1 D = none ∧ ∃ lv, H' D = some (.lst lv) ∧ Paired (PairAt H') lv ((ms.take i).map (fun m => (m.s, m.t))) ∧ lv.length ≤ i) ⟨same_new hD, hD, [], upd_same, .nil, Nat.le_refl _⟩ (fun i H' _ h => sqT_same h6 h.1) ?_ ?_⟩
    · rintro i x H2 hi ⟨s2, d1, lv, d2, pr, ll⟩
      obtain ⟨g, a, hg, rfl, hrow⟩ := h9.get hi
      have et : ms.take (i + 1) = ms.take i ++ [g] := by rw [List.take_add_one, hg]; rfl
      have il := (List.getElem?_eq_some_iff.mp hg).1
      refine ⟨rfl, ?_⟩
      refine ⟨_, rfl, _, _, _, _, rfl, rfl, sqT_same hrow s2, rfl, _, rfl, _, _, _, _, rfl, rfl, sqT_same hrow s2, rfl, (by show 2 ≤ sizeLine; decide), fun y hy => ?_⟩
      have sy := same_new (o := .tup [.int ((fun m => (m.s, m.t)) g).1, .int ((fun m => (m.s, m.t)) g).2]) hy
      have d3 := sy _ _ d2
      refine ⟨lv, d3, big (by omega), Same.wr (s2.trans sy) d1, d1, lv ++ [.ref y], upd_same, ?_, by simp; omega⟩
      rw [et, List.map_append]
      have ny : y ≠ D := (ne_of_none d2 hy).symm
      exact pairApp (pairAt_lst d3 (pairAt_same sy pr)) (.cons ⟨y, rfl, by rw [upd_ne ny]; exact upd_same⟩ .nil)
    · rintro H2 ⟨s2, d1, lv, d2, pr, ll⟩
      have el : ms.take mv.length = ms := List.take_of_length_le (by rw [h9.1]; exact Nat.le_refl _)
      rw [el] at pr
      have nsl : ns.length ≤ 9 := by
        have := asc.nd.length_le_of_subset (l₂ := st bs) fun i hi => by
          obtain ⟨g, hg, e⟩ := (mm i).mp hi
          exact List.mem_map.mpr ⟨g, hg, e⟩
        unfold st at this
        rw [List.length_map] at this
        omega
      refine ⟨pp, D, ns, lv, ms.map (fun m => (m.s, m.t)), rfl, sqT_same hns s2, d2, pr, nsl, (by rw [List.length_map]; exact hl2), fun H3 d DD ks s3 hd h3' ds hk => ?_⟩
      refine q H3 d DD ks ((s1.trans s2).trans s3) ((s1.trans s2).free hd) h3' ds fun x => ?_
      rw [hk]
      constructor
      · exact fun h => h.cong fun i hi => by
          obtain ⟨g, hg, e⟩ := (mm i).mp hi
          exact List.mem_map.mpr ⟨g, hg, e⟩
      · exact fun h => h.cong fun i hi => by
          obtain ⟨g, hg, e⟩ := List.mem_map.mp hi
          exact (mm i).mpr ⟨g, hg, e⟩
theorem C_hopeful_states (c : Cn K mg) : Cal P w K mg base 2 "hopeful_states" (sp_hopeful_states K) [] := by
  refine mkCal (F_hopeful_states c) (g_hopeful_states c) sc_hopeful_states (fun _ _ _ _ _ _ us hl => match us, hl with | [_], _ => rfl) (fun vs H Q E h => ?_) (fun cdv A outer s H vs Q E hr h => ?_)
  · obtain ⟨t, bs, ms, es, rfl, _⟩ := h
    rfl
  · obtain ⟨t, bs, ms, es, rfl, ht, q⟩ := h
    refine ⟨_, (pss_one (ps_ret (pe_c (C_closed_over c) hr (by decide) rfl (pa_cons (pe_c (C_end_states c) hr (by decide) rfl (pa_cons (pv 0) pa_nil)) (pa_cons (pe_lc (own := [("move", 1)]) rfl sc_hopeful_states.nd (piT K (fldK K (pv 0) rfl)) (blkOk_by (own := [("move", 1)]) (N := N_hopeful_states) (sc := defScope s_hopeful_states) (by decide +kernel)) (fun _ _ _ _ _ => (pg_name (i := 1) sc_hopeful_states.nd rfl (.inl rfl))) (fun _ _ _ _ _ => pts_nil) (fun _ _ _ _ _ => (pe_tup (pa_cons (pe_ix (ixT K) (pv 1) pe_int (fun _ _ => rfl)) (pa_cons (pe_ix (ixT K) (pv 1) pe_int (fun _ _ => rfl)) pa_nil))))) pa_nil))))), ?_⟩
    refine ⟨_, rfl, t, bs, ms, es, rfl, ht, fun H1 pp ns s1 hpp hns asc mm => ?_⟩
    obtain ⟨dx, fs, b, m, e, bv, mv, ev, h1, h2, h3, h4, h5, h6, h7, h8, h9, h10, hl1, hl2, hl3⟩ := ht.same s1
    refine ⟨_, rfl, t, aTr K, dx, fs, _, rfl, h1, cl_Translator c, n_Translator_moves c, h3, m, rfl, ⟨_, h6⟩, fun D hD => lc_tup (K := K) (a := m) (xs := mv) (fun i H' => Same H1 H' ∧ H1 D = none ∧ ∃ lv, H' D = some (.lst lv) ∧ Paired (PairAt H') lv ((ms.take i).map (fun m => (m.t, m.s))) ∧ lv.length ≤ i) ⟨same_new hD, hD, [], upd_same, .nil, Nat.le_refl _⟩ (fun i H' _ h => sqT_same h6 h.1) ?_ ?_⟩
    · rintro i x H2 hi ⟨s2, d1, lv, d2, pr, ll⟩
      obtain ⟨g, a, hg, rfl, hrow⟩ := h9.get hi
      have et : ms.take (i + 1) = ms.take i ++ [g] := by rw [List.take_add_one, hg]; rfl
      have il := (List.getElem?_eq_some_iff.mp hg).1
      refine ⟨rfl, ?_⟩
      refine ⟨_, rfl, _, _, _, _, rfl, rfl, sqT_same hrow s2, rfl, _, rfl, _, _, _, _, rfl, rfl, sqT_same hrow s2, rfl, (by show 2 ≤ sizeLine; decide), fun y hy => ?_⟩
      have sy := same_new (o := .tup [.int ((fun m => (m.t, m.s)) g).1, .int ((fun m => (m.t, m.s)) g).2]) hy
      have d3 := sy _ _ d2
      refine ⟨lv, d3, big (by omega), Same.wr (s2.trans sy) d1, d1, lv ++ [.ref y], upd_same, ?_, by simp; omega⟩
      rw [et, List.map_append]
      have ny : y ≠ D := (ne_of_none d2 hy).symm
      exact pairApp (pairAt_lst d3 (pairAt_same sy pr)) (.cons ⟨y, rfl, by rw [upd_ne ny]; exact upd_same⟩ .nil)
    · rintro H2 ⟨s2, d1, lv, d2, pr, ll⟩
      have el : ms.take mv.length = ms := List.take_of_length_le (by rw [h9.1]; exact Nat.le_refl _)
      rw [el] at pr
      have nsl : ns.length ≤ 9 := by
        have := asc.nd.length_le_of_subset (l₂ := st es) fun i hi => by
          obtain ⟨g, hg, e⟩ := (mm i).mp hi
          exact List.mem_map.mpr ⟨g, hg, e⟩
        unfold st at this
        rw [List.length_map] at this
        omega
      refine ⟨pp, D, ns, lv, ms.map (fun m => (m.t, m.s)), rfl, sqT_same hns s2, d2, pr, nsl, (by rw [List.length_map]; exact hl2), fun H3 d DD ks s3 hd h3' ds hk => ?_⟩
      refine q H3 d DD ks ((s1.trans s2).trans s3) ((s1.trans s2).free hd) h3' ds fun x => ?_
      rw [hk]
      constructor
      · exact fun h => h.cong fun i hi => by
          obtain ⟨g, hg, e⟩ := (mm i).mp hi
          exact List.mem_map.mpr ⟨g, hg, e⟩
      · exact fun h => h.cong fun i hi => by
          obtain ⟨g, hg, e⟩ := List.mem_map.mp hi
          exact (mm i).mpr ⟨g, hg, e⟩
def N_useful_states : List Str := ["translator", "reached", "hopeful", "state"]
theorem sc_useful_states : FnScope N_useful_states ["translator"] (defScope s_useful_states) := ⟨rfl, rfl, rfl, by decide +kernel, rfl, by decide +kernel, by decide +kernel⟩
def sp_useful_states (K : PySem.W.Frag) : Sp := fun vs H Q _ => ∃ (t : Addr) (bs : List Bg) (ms : List Mv) (es : List Bg), vs = [.ref t] ∧ Pre K H t bs ms es ∧ ∀ H' p us, Same H H' → SqT K H' p (nums us) → Usf bs ms es us → Q (.ref p) H'
theorem asc_sorted {ns ns' : List Int} (p : ns'.Perm ns) (nd : ns.Nodup) (h : ns'.Pairwise (· ≤ ·)) : Asc ns' := by
  have nd' := p.nodup_iff.mpr nd
  refine (List.Pairwise.and h nd').imp fun {a b} ⟨h1, h2⟩ => ?_
  omega
theorem C_useful_states (c : Cn K mg) : Cal P w K mg base 3 "useful_states" (sp_useful_states K) [] := by
  refine mkCal (F_useful_states c) (g_useful_states c) sc_useful_states (fun _ _ _ _ _ _ us hl => match us, hl with | [_], _ => rfl) (fun vs H Q E h => ?_) (fun cdv A outer s H vs Q E hr h => ?_)
  · obtain ⟨t, bs, ms, es, rfl, _⟩ := h
    rfl
  · obtain ⟨t, bs, ms, es, rfl, ht, q⟩ := h
    have hu := hu_of hr
    refine ⟨_, (pss_cons (ps_asg (pe_tup (pa_cons (pe_c (C_reached_states c) hr (by decide) rfl (pa_cons (pv 0) pa_nil)) (pa_cons (pe_c (C_hopeful_states c) hr (by decide) rfl (pa_cons (pv 0) pa_nil)) pa_nil))) (pgT K (n := 2) rfl (pgs_cons (pg_name (i := 1) sc_useful_states.nd rfl (.inl rfl)) (pgs_cons (pg_name (i := 2) sc_useful_states.nd rfl (.inr rfl)) pgs_nil))))
      (pss_one (ps_ret (pe_callTy (tupOf K) (by rfl) (m_tuple c) (by decide +kernel) (pa_cons (pe_callB cr_sortedI (by rfl) (m_sorted c) (by decide +kernel) (pa_cons (pe_lock (pe_lc (own := [("state", 3)]) rfl sc_useful_states.nd (pi_keys (pv 1)) (blkOk_by (own := [("state", 3)]) (N := N_useful_states) (sc := defScope s_useful_states) (by decide +kernel)) (fun _ _ _ _ _ => (pg_name (i := 3) sc_useful_states.nd rfl (.inl rfl))) (fun _ _ _ _ _ => pts_one (pt_cmp (pc_din hu (pv 3) (pv 2)))) (fun _ _ _ _ _ => (pv 3)))) pa_nil)) pa_nil))))), ?_⟩
    refine ⟨_, rfl, t, bs, ms, es, rfl, ht, fun H1 d1 D1 k1 s1 hd1 e1 ds1 m1 => ?_⟩
    refine ⟨_, rfl, t, bs, ms, es, rfl, ht.same s1, fun H2 d2 D2 k2 s2 hd2 e2 ds2 m2 => ⟨(by show 2 ≤ sizeLine; decide), fun y hy => ?_⟩⟩
    have n12 : d2 ≠ d1 := (ne_of_none e1 hd2).symm
    have sy := same_new (o := .tup [.ref d1, .ref d2]) hy
    have ey : upd H2 y (.tup [.ref d1, .ref d2]) y = some (.tup [.ref d1, .ref d2]) := upd_same
    have e1' := sy _ _ (s2 _ _ e1)
    have e2' := sy _ _ e2
    have s03 := (s1.trans s2).trans sy
    generalize upd H2 y (.tup [.ref d1, .ref d2]) = H3 at sy ey e1' e2' s03
    refine ⟨y, _, rfl, SqT.of ey, rfl, _, _, rfl, _, _, rfl, rfl, ?_⟩
    refine ⟨d1, _, e1', trivial, fun od => ?_⟩
    have eF : upd H3 d1 (.frz od (.dK D1)) d1 = some (.frz od (.dK D1)) := upd_same
    have keepF : ∀ a o, H3 a = some o → a ≠ d1 → upd H3 d1 (.frz od (.dK D1)) a = some o := fun a o e n => by rw [upd_ne n]; exact e
    generalize upd H3 d1 (.frz od (.dK D1)) = HF at eF keepF
    have e2F := keepF _ _ e2' n12
    have kl : D1.length = k1.length := by
      have := congrArg List.length ds1.keys
      rwa [List.length_map, List.length_map] at this
    refine ⟨_, rfl, d1, od, rfl, .inl ⟨D1, eF, fun D hD => ?_⟩⟩
    refine lc_keys (d := d1) (o := od) (kvs := D1) (fun i H' => Same HF H' ∧ HF D = none ∧ H' D = some (.lst (nums ((k1.take i).filter fun x => decide (x ∈ k2))))) ⟨same_new hD, hD, upd_same⟩ (fun i H' h => h.1 _ _ eF) ?_ ?_
    · rintro i k v H4 hi ⟨s4, g1, g2⟩
      have hk : (k1.map (Sum.inl : Int → Key))[i]? = some k := by
        rw [← ds1.keys, List.getElem?_map, hi]
        rfl
      rw [List.getElem?_map] at hk
      obtain ⟨x, hx, rfl⟩ := Option.map_eq_some_iff.mp hk
      have et : k1.take (i + 1) = k1.take i ++ [x] := by rw [List.take_add_one, hx]; rfl
      refine ⟨rfl, ?_⟩
      refine ⟨_, rfl, _, rfl, d2, _, rfl, DGet.k (k := Sum.inl x) (s4 _ _ e2F), _, rfl, ?_⟩
      rw [ds2.has x]
      refine iteD (fun hm => ?_) (fun hm => ?_)
      · have l1 := List.length_filter_le (fun x => decide (x ∈ k2)) (k1.take i)
        rw [List.length_take] at l1
        have sub := ds2.nd
        refine ⟨_, rfl, _, g2, ?_, Same.wr s4 g1, g1, ?_⟩
        · rw [nums_len]
          have l2 : ((k1.take i).filter fun x => decide (x ∈ k2)).length ≤ 18 := by
            have nd : ((k1.take i).filter fun x => decide (x ∈ k2)).Nodup := (ds1.nd.sublist (List.take_sublist _ _)).sublist List.filter_sublist
            have := nd.length_le_of_subset (l₂ := st bs ++ (fw ms).map (·.2)) fun z hz => by
              have h1 := (m1 z).mp (List.mem_of_mem_take (List.mem_filter.mp hz).1)
              exact reach_mem h1
            obtain ⟨dx, fs, b, m, e, bv, mv, ev, _, _, _, _, _, _, _, _, _, _, hl1, hl2, hl3⟩ := ht
            unfold st fw at this
            rw [List.length_append, List.length_map, List.length_map, List.length_map] at this
            omega
          exact big (by omega)
        · have e8 : (k1.take (i + 1)).filter (fun x => decide (x ∈ k2)) = (k1.take i).filter (fun x => decide (x ∈ k2)) ++ [x] := by
            rw [et, List.filter_append]
            have : [x].filter (fun x => decide (x ∈ k2)) = [x] := by simp [hm]
            rw [this]
          rw [upd_same, e8, ← nums_snoc]
          rfl
      · refine ⟨s4, g1, ?_⟩
        rw [et, List.filter_append]
        have : [x].filter (fun x => decide (x ∈ k2)) = [] := by simp [hm]
        rw [this, List.append_nil]
        exact g2
    · rintro H4 ⟨s4, g1, g2⟩
      rw [kl, List.take_length] at g2
      have eF4 := s4 _ _ eF
      refine ⟨eF4, ?_⟩
      have nD : D ≠ d1 := ne_of g2 eF4 (by intro z; cases z)
      have s5 : Same H3 (upd H4 d1 (.dK D1)) := fun a o e => by
        by_cases ha : a = d1
        · subst ha
          rw [upd_same, ← e1']
          exact e
        · rw [upd_ne ha]
          exact s4 _ _ (keepF a o e ha)
      refine ⟨D, _, rfl, SqL.of (by rw [upd_ne nD]; exact g2), fun ns' p pm pw hp => ?_⟩
      have sp := same_new (o := .lst (nums ns')) hp
      refine ⟨p, _, rfl, .inl ⟨SqL.of upd_same, fun l hl => ?_⟩⟩
      have sl := same_new (o := .tup (nums ns')) hl
      refine q _ l ns' (((s03.trans s5).trans sp).trans sl) (SqT.of upd_same) ⟨asc_sorted pm (ds1.nd.sublist List.filter_sublist) pw, fun i => ?_⟩
      rw [pm.mem_iff, List.mem_filter, m1 i]
      constructor
      · rintro ⟨h1, h2⟩
        exact ⟨h1, (m2 i).mp (of_decide_eq_true h2)⟩
      · rintro ⟨h1, h2⟩
        exact ⟨h1, decide_eq_true ((m2 i).mpr h2)⟩
def N_Translator_init : List Str := ["self", "states", "begins", "moves", "ends", "move"]
theorem sc_Translator_init : FnScope N_Translator_init ["self", "states", "begins", "moves", "ends"] (defScope s_Translator_init) := ⟨rfl, rfl, rfl, by decide +kernel, rfl, by decide +kernel, by decide +kernel⟩
def sp_Translator_init (K : PySem.W.Frag) : Sp := fun vs H Q _ => ∃ (p dx b m e : Addr) (n : Int) (bs : List Bg) (ms : List Mv) (es : List Bg) (bv mv ev : List V), vs = [.ref p, .int n, .ref b, .ref m, .ref e] ∧ H p = some (.ins (aTr K) dx []) ∧ SqT K H b bv ∧ SqT K H m mv ∧ SqT K H e ev ∧ Rw Bg.vs K H bv bs ∧ Rw Mv.vs K H mv ms ∧ Rw Bg.vs K H ev es ∧
  (∀ g ∈ bs, BgOk n g) ∧ (∀ g ∈ ms, MvOk n g) ∧ (∀ g ∈ es, BgOk n g) ∧ Ris (bs.map kB) ∧ Ris (ms.map kM) ∧ Ris (es.map kB) ∧ bs.length ≤ 9 ∧ ms.length ≤ 9 ∧ es.length ≤ 9 ∧ 0 ≤ n ∧ n ≤ 9 ∧
  ∀ H' us, (∀ a o, H a = some o → a ≠ p → H' a = some o) → TrAt K H' p ⟨n, bs, ms, es, us⟩ → Usf bs ms es us → Q .non H'
theorem reach_range {n : Int} {bs : List Bg} {ms : List Mv} (h1 : ∀ g ∈ bs, BgOk n g) (h2 : ∀ g ∈ ms, MvOk n g) {x : Int} (h : Reach (fw ms) (st bs) x) : 0 ≤ x ∧ x < n := by
  cases h with
  | base h =>
    obtain ⟨g, hg, e⟩ := List.mem_map.mp h
    have := h1 g hg
    have e' : g.s = x := e
    rw [← e']
    exact ⟨this.1, this.2.1⟩
  | step _ h =>
    obtain ⟨m, hm, e⟩ := List.mem_map.mp h
    have := h2 m hm
    injection e with e1 e2
    rw [← e2]
    exact ⟨this.2.2.1, this.2.2.2.1⟩
theorem us_len {n : Int} {bs : List Bg} {ms : List Mv} {es : List Bg} {us : List Int} (h1 : ∀ g ∈ bs, BgOk n g) (h2 : ∀ g ∈ ms, MvOk n g) (n0 : 0 ≤ n) (n9 : n ≤ 9) (u : Usf bs ms es us) : us.length ≤ 9 := by
  have := u.1.nd.length_le_of_subset (l₂ := (List.range n.toNat).map Int.ofNat) fun x hx => by
    have hr := reach_range h1 h2 ((u.2 x).mp hx).1
    exact List.mem_map.mpr ⟨x.toNat, List.mem_range.mpr (by omega), Int.toNat_of_nonneg hr.1⟩
  rw [List.length_map, List.length_range] at this
  omega
theorem mapStr {M : List Key} (h : ∀ k ∈ M, ∃ z, k = .inr z) : ∃ zs : List Str, M.map kV = zs.map V.str ∧ zs.length = M.length ∧ ∀ z ∈ zs, (.inr z : Key) ∈ M := by
  induction M with
  | nil => exact ⟨[], rfl, rfl, fun z hz => nomatch hz⟩
  | cons k M ih =>
    obtain ⟨zs, e1, e2, e3⟩ := ih fun x hx => h x (List.mem_cons_of_mem _ hx)
    obtain ⟨z, rfl⟩ := h k List.mem_cons_self
    refine ⟨z :: zs, by rw [List.map_cons, List.map_cons, e1]; rfl, by simp [e2], fun y hy => ?_⟩
    rcases List.mem_cons.mp hy with e | e
    · rw [e]; exact List.mem_cons_self
    · exact List.mem_cons_of_mem _ (e3 y e)
theorem sum_le_all {zs : List Str} (h : ∀ z ∈ zs, z.length ≤ 1) : (zs.map (·.length)).sum ≤ zs.length := by
  induction zs with
  | nil => simp
  | cons z zs ih =>
    have := h z List.mem_cons_self
    have := ih fun x hx => h x (List.mem_cons_of_mem _ hx)
    simp only [List.map_cons, List.sum_cons, List.length_cons]
    omega
theorem K_Translator (c : Cn K mg) : Mak P w K mg base 5 "Translator" (He.ga K "Translator") (sp_Translator_init K) [] := by
  refine mkMak (F_Translator_init c) (mk_Translator c) (g_Translator c) sc_Translator_init (fun _ _ _ _ _ _ us hl => match us, hl with | [_, _, _, _, _], _ => rfl) (fun vs H Q E h => ?_) (fun cdv A outer s H vs Q E hr h => ?_)
  · obtain ⟨p, dx, b, m, e, n, bs, ms, es, bv, mv, ev, rfl, _⟩ := h
    rfl
  · obtain ⟨p, dx, b, m, e, n, bs, ms, es, bv, mv, ev, rfl, hp, hb, hm, he, rb, rm, re, ob, om, oe, ib, im, ie, lb, lm, le, n0, n9, q⟩ := h
    have hu := hr.units
    refine ⟨_, (pss_cons (ps_if (PW.pt (pw_or (pt_not (pt_val (pe_c (C_is_integer_words c) hr (by decide) rfl (pa_cons (pv 1) pa_nil)))) (pw_or1 (pt_not (pt_chain op_le op_le pe_int (pv 1) (pe_gint rfl (m_MOST_STATES c)))))))
        (pss_one ps_never)
        pss_nil)
      (pss_cons (ps_if (pt_not (pt_val (pe_c (C_are_pairs c) hr (by decide) rfl (pa_cons (pv 1) (pa_cons (pv 2) pa_nil)))))
        (pss_one ps_never)
        pss_nil)
      (pss_cons (ps_if (pt_not (pt_val (pe_c (C_are_moves c) hr (by decide) rfl (pa_cons (pv 1) (pa_cons (pv 3) pa_nil)))))
        (pss_one ps_never)
        pss_nil)
      (pss_cons (ps_if (pt_not (pt_val (pe_c (C_are_pairs c) hr (by decide) rfl (pa_cons (pv 1) (pa_cons (pv 4) pa_nil)))))
        (pss_one ps_never)
        pss_nil)
      (pss_cons (ps_fld (pv 0) (pv 1) rfl)
      (pss_cons (ps_fld (pv 0) (pv 2) rfl)
      (pss_cons (ps_fld (pv 0) (pv 3) rfl)
      (pss_cons (ps_fld (pv 0) (pv 4) rfl)
      (pss_cons (ps_fld (pv 0) (pe_join pe_str (pe_callB (SetX.cr_sortedQ rfl hu) (by rfl) (m_sorted c) (by decide +kernel) (pa_cons (SetX.pe_sq (own := [("move", 5)]) rfl sc_Translator_init.nd (piT K (pv 3)) (blkOk_by (own := [("move", 5)]) (N := N_Translator_init) (sc := defScope s_Translator_init) (by decide +kernel)) (fun _ _ _ _ _ => (pg_name (i := 5) sc_Translator_init.nd rfl (.inl rfl))) (fun _ _ _ _ _ => pts_nil) (fun _ _ _ _ _ => (pe_ix (ixT K) (pv 5) pe_int (fun _ _ => rfl)))) pa_nil))) rfl)
      (pss_one (ps_fld (pv 0) (pe_c (C_useful_states c) hr (by decide) rfl (pa_cons (pv 0) pa_nil)) rfl))))))))))), ?_⟩
    refine ⟨_, rfl, n, rfl, _, rfl, ?_⟩
    refine ⟨_, rfl, _, _, rfl, rfl, _, rfl, ?_⟩
    refine ifT n0 ?_
    refine ⟨_, _, rfl, rfl, _, rfl, ?_⟩
    refine ifNT (a := n ≤ 999) (by omega) ?_
    refine ⟨_, rfl, _, rfl, n, b, bv, bs, rfl, hb, rb, ob, ib, (by rw [rb.1]; exact lb), fun H1 s1 => ⟨_, rfl, ?_⟩⟩
    refine ⟨_, rfl, _, rfl, n, m, mv, ms, rfl, sqT_same hm s1, (Im.same s1).rw rm, om, im, (by rw [rm.1]; exact lm), fun H2 s2 => ⟨_, rfl, ?_⟩⟩
    have s02 := s1.trans s2
    refine ⟨_, rfl, _, rfl, n, e, ev, es, rfl, sqT_same he s02, (Im.same s02).rw re, oe, ie, (by rw [re.1]; exact le), fun H3 s3 => ⟨_, rfl, ?_⟩⟩
    have s03 := s02.trans s3
    have hp3 := s03 _ _ hp
    have cl := cl_Translator c
    have imU : ∀ {o : HO}, Im H3 (upd H3 p o) := fun {o} => im_ins hp3
    have im03 := Im.same s03
    refine ⟨_, rfl, _, rfl, p, _, dx, _, rfl, hp3, cl, n_Translator_states c, (by show 0 < 1000; decide), ?_⟩
    refine ⟨_, rfl, _, rfl, p, _, dx, _, rfl, upd_same, cl, n_Translator_begins c, (by show 1 < 1000; decide), ?_⟩
    refine ⟨_, rfl, _, rfl, p, _, dx, _, rfl, upd_same, cl, n_Translator_moves c, (by show 2 < 1000; decide), ?_⟩
    refine ⟨_, rfl, _, rfl, p, _, dx, _, rfl, upd_same, cl, n_Translator_ends c, (by show 3 < 1000; decide), ?_⟩
    rw [upd_upd, upd_upd, upd_upd]
    have im04 : Im H (upd H3 p (.ins (aTr K) dx (putF "ends" (.ref e) (putF "moves" (.ref m) (putF "begins" (.ref b) (putF "states" (.int n) [])))))) := im03.trans imU
    have hp4 : upd H3 p (.ins (aTr K) dx (putF "ends" (.ref e) (putF "moves" (.ref m) (putF "begins" (.ref b) (putF "states" (.int n) []))))) p = some (.ins (aTr K) dx [("states", .int n), ("begins", .ref b), ("moves", .ref m), ("ends", .ref e)]) := upd_same
    have fr4 : ∀ a o, H a = some o → a ≠ p → upd H3 p (.ins (aTr K) dx (putF "ends" (.ref e) (putF "moves" (.ref m) (putF "begins" (.ref b) (putF "states" (.int n) []))))) a = some o := fun a o h na => by rw [upd_ne na]; exact s03 _ _ h
    generalize upd H3 p (.ins (aTr K) dx (putF "ends" (.ref e) (putF "moves" (.ref m) (putF "begins" (.ref b) (putF "states" (.int n) []))))) = H4 at im04 hp4 fr4
    have hm4 := im04.sq hm
    have rm4 := im04.rw rm
    refine ⟨⟨_, rfl⟩, ?_⟩
    refine ⟨_, rfl, m, rfl, ⟨_, hm4⟩, fun D hD => SetX.sq_tup (K := K) (a := m) (xs := mv) (fun i H' => Same H4 H' ∧ H4 D = none ∧ H' D = some (SetX.SetQO P w D (((ms.take i).map fun g => (.inr g.l : Key)).foldl SetX.put []))) ⟨same_new hD, hD, upd_same⟩ (fun i H' _ h => sqT_same hm4 h.1) ?_ ?_⟩
    · rintro i x H5 hi ⟨s5, d1, d2⟩
      obtain ⟨g, a, hg, rfl, hrow⟩ := rm4.get hi
      have et : ms.take (i + 1) = ms.take i ++ [g] := by rw [List.take_add_one, hg]; rfl
      refine ⟨rfl, ?_⟩
      refine ⟨_, rfl, _, _, _, _, rfl, rfl, sqT_same hrow s5, rfl, ?_⟩
      refine ⟨.inr g.l, _, rfl, d2, ?_, Same.wr s5 d1, d1, ?_⟩
      · have := fold_put_len ((ms.take i).map fun g => (.inr g.l : Key)) []
        rw [List.length_nil, Nat.zero_add, List.length_map, List.length_take] at this
        unfold scanBound
        omega
      · rw [upd_same, et, List.map_append, List.foldl_append]
        rfl
    rintro H5 ⟨s5, d1, d2⟩
    have el : ms.take mv.length = ms := List.take_of_length_le (by rw [rm.1]; exact Nat.le_refl _)
    rw [el] at d2
    have isL : ∀ k ∈ (ms.map fun g => (.inr g.l : Key)).foldl SetX.put [], ∃ g ∈ ms, k = .inr g.l := fun k hk => by
      rcases (fold_put_mem _ _ _).mp hk with z | z
      · cases z
      obtain ⟨g, hg, e⟩ := List.mem_map.mp z
      exact ⟨g, hg, e.symm⟩
    refine ⟨D, _, rfl, d2, ?_, fun l M hl pm nd pw => ?_⟩
    · intro d hd d' hd'
      obtain ⟨k, hk, rfl⟩ := List.mem_map.mp hd
      obtain ⟨k', hk', rfl⟩ := List.mem_map.mp hd'
      obtain ⟨g, _, rfl⟩ := isL k hk
      obtain ⟨g', _, rfl⟩ := isL k' hk'
      rfl
    obtain ⟨zs, z1, z2, z3⟩ := mapStr (M := M) fun k hk => by
      obtain ⟨g, _, e⟩ := isL k (pm.mem_iff.mp hk)
      exact ⟨g.l, e⟩
    have z9 : zs.length ≤ 9 := by
      rw [z2, pm.length_eq]
      have := fold_put_len (ms.map fun g => (.inr g.l : Key)) []
      rw [List.length_nil, Nat.zero_add, List.length_map] at this
      omega
    have zl : ∀ z ∈ zs, z.length ≤ 1 := fun z hz => by
      obtain ⟨g, hg, e⟩ := isL _ (pm.mem_iff.mp (z3 z hz))
      injection e with e
      rw [e]
      rcases (om g hg).2.2.2.2.2 with h | h <;> rw [h] <;> decide
    rw [z1]
    have sl := same_new (o := .lst (zs.map V.str)) hl
    have dl : upd H5 l (.lst (zs.map V.str)) l = some (.lst (zs.map V.str)) := upd_same
    generalize upd H5 l (.lst (zs.map V.str)) = H6 at sl dl
    have s46 := s5.trans sl
    refine ⟨_, l, zs, rfl, rfl, .inl (SqL.of dl), ?_, ?_⟩
    · have := sum_le_all zl
      have e0 : (Str.ofString "").length = 0 := by decide +kernel
      rw [e0]
      omega
    refine ⟨_, rfl, p, _, dx, _, rfl, s46 _ _ hp4, cl, n_Translator_letters c, (by show 4 < 1000; decide), ?_⟩
    have hp6 := s46 _ _ hp4
    have im06 : Im H (upd H6 p (.ins (aTr K) dx (putF "letters" (.str (Txt.join (Str.ofString "") zs)) [("states", .int n), ("begins", .ref b), ("moves", .ref m), ("ends", .ref e)]))) := (im04.trans (Im.same s46)).trans (im_ins hp6)
    have hp7 : upd H6 p (.ins (aTr K) dx (putF "letters" (.str (Txt.join (Str.ofString "") zs)) [("states", .int n), ("begins", .ref b), ("moves", .ref m), ("ends", .ref e)])) p = some (.ins (aTr K) dx [("states", .int n), ("begins", .ref b), ("moves", .ref m), ("ends", .ref e), ("letters", .str (Txt.join (Str.ofString "") zs))]) := upd_same
    have fr7 : ∀ a o, H a = some o → a ≠ p → upd H6 p (.ins (aTr K) dx (putF "letters" (.str (Txt.join (Str.ofString "") zs)) [("states", .int n), ("begins", .ref b), ("moves", .ref m), ("ends", .ref e)])) a = some o := fun a o h na => by rw [upd_ne na]; exact s46 _ _ (fr4 _ _ h na)
    generalize upd H6 p (.ins (aTr K) dx (putF "letters" (.str (Txt.join (Str.ofString "") zs)) [("states", .int n), ("begins", .ref b), ("moves", .ref m), ("ends", .ref e)])) = H7 at im06 hp7 fr7
    refine ⟨_, rfl, p, bs, ms, es, rfl, ⟨dx, _, b, m, e, bv, mv, ev, hp7, rfl, rfl, rfl, im06.sq hb, im06.sq hm, im06.sq he, im06.rw rb, im06.rw rm, im06.rw re, lb, lm, le⟩, fun H8 u us s8 hu8 usf => ?_⟩
    have hp8 := s8 _ _ hp7
    refine ⟨_, rfl, p, _, dx, _, rfl, hp8, cl, n_Translator_useful c, (by show 5 < 1000; decide), ?_⟩
    have im9 : Im H8 (upd H8 p (.ins (aTr K) dx (trF n b m e u (Txt.join (Str.ofString "") zs)))) := im_ins hp8
    have im09 := (im06.trans (Im.same s8)).trans im9
    refine q _ us (fun a o h na => by rw [upd_ne na]; exact s8 _ _ (fr7 _ _ h na)) ⟨⟨dx, b, m, e, u, Txt.join (Str.ofString "") zs, bv, mv, ev, upd_same, im09.sq hb, im09.sq hm, im09.sq he, im9.sq hu8, im09.rw rb, im09.rw rm, im09.rw re⟩, ⟨fun g hg => (ob g hg).2.2.1, fun g hg => (om g hg).2.2.2.2.1.1, lb, lm, us_len ob om n0 n9 usf⟩⟩ usf
end
end K86
end
section
set_option maxHeartbeats 4000000
namespace K86
open PySem PySem.Spec PyProof.Rows L2
open C8 (Cal Met Mak pe_c pe_mk pe_mt pe_mt0)
section
variable {P : Program} {w : World} {K : PySem.W.Frag} {mg : Str → Option Value} {base : Heap}
theorem intI {X : Cx} : CallR X (.type "int") (fun xs H Q => ∃ i : Int, xs = [.int i] ∧ Q (.int i) H) := by
  intro pins s σ H xs us Q I r ⟨i, e, q⟩
  exact call_int1 pins s σ H xs us Q I r (.inl ⟨i, e, q⟩)
theorem lenA {X : Cx} (K : PySem.W.Frag) (hK : X.K = K := by rfl) : CallR X (.builtin "len") (fun xs H Q => rLenS K xs H Q ∨ ∃ z : Str, xs = [.str z] ∧ z.length ≤ sizeLine ∧ Q (.int z.length) H) := by
  intro pins s σ H xs us Q I r h
  rcases h with h | ⟨z, h1, h2, h3⟩
  · exact lenS K hK pins s σ H xs us Q I r h
  · exact call_len_str pins s σ H xs us Q I r ⟨z, h1, h2, h3⟩
theorem ixA {X : Cx} (K : PySem.W.Frag) (hK : X.K = K := by rfl) : IxR X (fun x y H Q => rIxL K x y H Q ∨ rIxS x y H Q) := by
  subst hK
  exact ix_list.or ix_str
/-- the deck at d, its cells at c, k draws behind it -/
def DeckAt (H : Hp) (d c : Addr) (k : Int) : Prop := ∃ (m : Int) (cs : List Int), H d = some (.dK [(.inr "cells", .ref c), (.inr "mixed", .int m), (.inr "draws", .int k)]) ∧ H c = some (.lst (nums cs)) ∧ cs.length ≤ 63 ∧ 0 ≤ m ∧ m < 2147483587 ∧ 0 ≤ k
theorem DeckAt.ne {H : Hp} {d c : Addr} {k : Int} (h : DeckAt H d c k) : d ≠ c := by
  obtain ⟨m, cs, h1, h2, _⟩ := h
  exact ne_of h1 h2 (by intro z; cases z)
theorem DeckAt.same {H H' : Hp} {d c : Addr} {k : Int} (h : DeckAt H d c k) (s : Same H H') : DeckAt H' d c k := by
  obtain ⟨m, cs, h1, h2, h3⟩ := h
  exact ⟨m, cs, s _ _ h1, s _ _ h2, h3⟩
theorem DeckAt.im {H H' : Hp} {d c : Addr} {k : Int} (h : DeckAt H d c k) (x : Bx d c H H') : Im H H' := by
  obtain ⟨m, cs, h1, h2, _⟩ := h
  exact ⟨fun b xs h => x b _ h (ne_of h h1 (by intro z; cases z)) (ne_of h h2 (by intro z; cases z)), fun b o u h => x b _ h (ne_of h h1 (by intro z; cases z)) (ne_of h h2 (by intro z; cases z))⟩
def N_law_deck : List Str := ["_law_script", "_law_cell", "_law_cells", "_law_mixed"]
theorem sc_law_deck : FnScope N_law_deck ["_law_script"] (defScope s_law_deck) := ⟨rfl, rfl, rfl, by decide +kernel, rfl, by decide +kernel, by decide +kernel⟩
def sp_law_deck (K : PySem.W.Frag) : Sp := fun vs H Q _ => ∃ (a : Addr) (ns : List Int), vs = [.ref a] ∧ SqL K H a (nums ns) ∧ ns.length ≤ 63 ∧ ∀ H' d c, Same H H' → H d = none → H c = none → DeckAt H' d c 0 → Q (.ref d) H'
theorem C_law_deck (c : Cn K mg) : Cal P w K mg base 1 "_law_deck" (sp_law_deck K) [] := by
  refine mkCal (F_law_deck c) (g_law_deck c) sc_law_deck (fun _ _ _ _ _ _ us hl => match us, hl with | [_], _ => rfl) (fun vs H Q E h => ?_) (fun cdv A outer s H vs Q E hr h => ?_)
  · obtain ⟨a, ns, rfl, _⟩ := h
    rfl
  · obtain ⟨a, ns, rfl, ha, hl, q⟩ := h
    refine ⟨_, (pss_cons (ps_par (i := 2) (j := 3) rfl sc_law_deck.nd rfl rfl (by decide) rfl rfl (pa_cons (pe_callTy call_list_of (by rfl) (m_list c) (by decide +kernel) (pa_cons (pe_slice (slL K) (pv 0) po_none (po_some pe_int)) pa_nil)) (pa_cons pe_int pa_nil)) (by rfl))
      (pss_cons (ps_for PassesOwn.never rfl (piL K (pv 2)) (pg_name (i := 1) sc_law_deck.nd rfl (.inl rfl))
        (pss_one (ps_set (i := 3) sc_law_deck.nd rfl (.inl rfl) (pe_op op_mod (pe_callTy intI (by rfl) (m_int c) (by decide +kernel) (pa_cons (pe_op op_add (pe_op op_add (pe_op op_mul (pv 3) pe_int) (pe_op op_mod (pe_callTy intI (by rfl) (m_int c) (by decide +kernel) (pa_cons (pv 1) pa_nil)) pe_int)) pe_int) pa_nil)) pe_int))))
      (pss_one (ps_ret (pe_disp (pps_cons pe_str (pe_revL (pv 2)) (pps_cons pe_str (pv 3) (pps_cons pe_str pe_int pps_nil))) (by rfl) (by rfl) (fun z => by cases z) (by decide)))))), ?_⟩
    refine ⟨_, rfl, 63, rfl, a, _, rfl, ha, fun p hp => ?_⟩
    have ec : cutV (nums ns) none (some 63) = nums ns := by
      have := cut_to (xs := nums ns) (k := 63)
      rw [List.take_of_length_le (by rw [nums_len]; exact hl)] at this
      exact this
    rw [ec]
    have s1 := same_new (o := .lst (nums ns)) hp
    have d1 : upd H p (.lst (nums ns)) p = some (.lst (nums ns)) := upd_same
    generalize upd H p (.lst (nums ns)) = H1 at s1 d1
    refine ⟨p, _, rfl, .inl (SqL.of d1), fun l hl0 => ?_⟩
    have s2 := same_new (o := .lst (nums ns)) hl0
    have d2 : upd H1 l (.lst (nums ns)) l = some (.lst (nums ns)) := upd_same
    generalize upd H1 l (.lst (nums ns)) = H2 at s2 d2
    have s02 := s1.trans s2
    refine ⟨_, _, rfl, ?_⟩
    refine ⟨_, rfl, l, rfl, ⟨_, SqL.of d2⟩, for_list (K := K) (a := l) (xs := nums ns) (fun i σ H' => H' = H2 ∧ ∃ (m : Int) (x : Option V), 0 ≤ m ∧ m < 2147483587 ∧ σ = [some (.ref a), x, some (.ref l), some (.int m)])
      ⟨rfl, 1086286, _, by decide, by decide, rfl⟩ (fun i σ H' _ h => h.1 ▸ SqL.of d2) ?_ ?_⟩
    · rintro i x σ H3 hi ⟨rfl, m, x0, m0, m1, rfl⟩
      obtain ⟨k, rfl, hk⟩ := nums_get hi
      refine ⟨_, rfl, _, _, rfl, rfl, .inl (by constructor <;> omega), _, rfl, _, rfl, _, _, rfl, rfl, (by show (0 : Int) < 2147483629; decide), _, _, rfl, rfl, _, _, rfl, rfl, _, rfl, _, _, rfl, rfl, (by show (0 : Int) < 2147483587; decide), ?_⟩
      exact ⟨rfl, _, _, Int.emod_nonneg _ (by decide), Int.emod_lt_of_pos _ (by decide), rfl⟩
    · rintro σ H3 ⟨rfl, m, x0, m0, m1, rfl⟩
      intro d hd
      have s3 := same_new (o := .dK []) hd
      have d3 : upd H3 d (.dK []) d = some (.dK []) := upd_same
      have d3l := s3 _ _ d2
      generalize upd H3 d (.dK []) = H4 at s3 d3 d3l
      refine ⟨_, rfl, l, _, rfl, SqL.of d3l, fun r hr0 => ?_⟩
      have s4 := same_new (o := .lst (nums ns).reverse) hr0
      have d4 : upd H4 r (.lst (nums ns).reverse) r = some (.lst (nums ns.reverse)) := by rw [upd_same]; unfold nums; rw [List.map_reverse]
      have d3' := s4 _ _ d3
      have nrd : r ≠ d := (ne_of_none d3 hr0).symm
      generalize upd H4 r (.lst (nums ns).reverse) = H5 at s4 d4 d3'
      have s05 := (s02.trans s3).trans s4
      refine ⟨_, rfl, d3', [(.inr "cells", .ref r), (.inr "mixed", .int m), (.inr "draws", .int 0)], rfl, (by show 3 ≤ 15; decide), ?_⟩
      refine q _ d r (Same.wr s05 (s02.free hd)) (s02.free hd) ((s02.trans s3).free hr0) ⟨m, ns.reverse, upd_same, by rw [upd_ne nrd]; exact d4, by rw [List.length_reverse]; exact hl, m0, m1, by decide⟩
def N_law_draw : List Str := ["_law_deck_here", "_law_below", "_law_figure", "_law_turn", "_law_cell"]
theorem sc_law_draw : FnScope N_law_draw ["_law_deck_here", "_law_below"] (defScope s_law_draw) := ⟨rfl, rfl, rfl, by decide +kernel, rfl, by decide +kernel, by decide +kernel⟩
def sp_law_draw (K : PySem.W.Frag) : Sp := fun vs H Q _ => ∃ (d c : Addr) (k b : Int), vs = [.ref d, .int b] ∧ DeckAt H d c k ∧ k ≤ 100000 ∧ 0 < b ∧ b ≤ 100 ∧ ∀ H' r, 0 ≤ r → r < b → DeckAt H' d c (k + 1) → Bx d c H H' → Q (.int r) H'
def dkD (c : Addr) (m k : Int) : List (Key × V) := [(.inr "cells", .ref c), (.inr "mixed", .int m), (.inr "draws", .int k)]
theorem dget_cells {H : Hp} {d c : Addr} {m k : Int} (h : H d = some (.dK (dkD c m k))) : DGet H d (.str "cells") (some (.ref c)) := DGet.k (k := Sum.inr "cells") h
theorem dget_mixed {H : Hp} {d c : Addr} {m k : Int} (h : H d = some (.dK (dkD c m k))) : DGet H d (.str "mixed") (some (.int m)) := DGet.k (k := Sum.inr "mixed") h
theorem dget_draws {H : Hp} {d c : Addr} {m k : Int} (h : H d = some (.dK (dkD c m k))) : DGet H d (.str "draws") (some (.int k)) := DGet.k (k := Sum.inr "draws") h
theorem put_draws {c : Addr} {m k k' : Int} : putK (dkD c m k) (.inr "draws") (.int k') = dkD c m k' := rfl
theorem dpL {H : Hp} {a : Addr} {ns : List Int} (h : SqL K H a (nums ns)) : Dp K H (.ref a) (.list (ns.map PyData.int)) := by
  have go : ∀ ns : List Int, DpAll K H (nums ns) (ns.map PyData.int) := fun ns => by
    induction ns with
    | nil => exact .nil
    | cons n ns ih => exact .cons (.int n) ih
  exact .lst h (go ns)
theorem shaped_list (ns : List Int) : SeqAt.shaped (.list (ns.map PyData.int)) = true := by
  obtain ⟨h1, h2⟩ := lay_nums ns
  unfold SeqAt.shaped
  simp [PyData.canLay0, PyData.depth, h1, h2]
theorem eqv_lnil (ns : List Int) : PyData.eqv (.list (ns.map PyData.int)) (.list []) = decide (ns = []) := by
  cases ns with
  | nil => simp [PyData.eqv, PyData.eqvAll]
  | cons n ns => simp [PyData.eqv, PyData.eqvAll]
theorem C_law_draw (c : Cn K mg) : Cal P w K mg base 1 "_law_draw" (sp_law_draw K) [] := by
  refine mkCal (F_law_draw c) (g_law_draw c) sc_law_draw (fun _ _ _ _ _ _ us hl => match us, hl with | [_, _], _ => rfl) (fun vs H Q E h => ?_) (fun cdv A outer s H vs Q E hr h => ?_)
  · obtain ⟨d, c, k, b, rfl, _⟩ := h
    rfl
  · obtain ⟨d, c', k, b, rfl, ⟨m, cs, h1, h2, h3, m0, m1, k0⟩, hk, b0, b1, q⟩ := h
    have hu := hu_of hr
    have n0 : d ≠ c' := ne_of h1 h2 (by intro z; cases z)
    refine ⟨_, (pss_cons (ps_dput hu (pv 0) pe_str (pe_op op_add (pe_dget hu (pv 0) pe_str (fun _ _ => rfl)) pe_int) rfl)
      (pss_cons (ps_par (i := 3) (j := 2) rfl sc_law_draw.nd rfl rfl (by decide) rfl rfl (pa_cons (pe_dget hu (pv 0) pe_str (fun _ _ => rfl)) (pa_cons (pe_dget hu (pv 0) pe_str (fun _ _ => rfl)) pa_nil)) (by rfl))
      (pss_cons (ps_if (pt_cmpR (neD K hr.units) (pe_dget hu (pv 0) pe_str (fun _ _ => rfl)) (pe_lst pa_nil) (nomark _))
        (pss_cons (ps_set (i := 4) sc_law_draw.nd rfl (.inl rfl) (pe_bm0 PySem.F.plainAttrs_list PySem.F.slot_list_pop PySem.F.type_list_pop mt_pop (pe_dget hu (pv 0) pe_str (fun _ _ => rfl))))
        (pss_cons (ps_if (pt_cmpR op_ge (pv 4) (pe_op op_pow pe_int pe_int) (nomark _))
          (pss_cons (ps_expr (pe_bm PySem.F.plainAttrs_list PySem.F.slot_list_append PySem.F.type_list_append mt_append (pe_dget hu (pv 0) pe_str (fun _ _ => rfl)) (pa_cons (pe_op op_fdivN (pv 4) (pv 1)) pa_nil)))
          (pss_one (ps_ret (pe_op op_mod (pe_callTy intI (by rfl) (m_int c) (by decide +kernel) (pa_cons (pv 4) pa_nil)) (pv 1)))))
          pss_nil)
        (pss_one (ps_set (i := 2) sc_law_draw.nd rfl (.inl rfl) (pe_op op_add (pv 2) (pe_op op_mod (pe_callTy intI (by rfl) (m_int c) (by decide +kernel) (pa_cons (pv 4) pa_nil)) pe_int))))))
        pss_nil)
      (pss_cons (ps_set (i := 2) sc_law_draw.nd rfl (.inl rfl) (pe_op op_mod (pe_op op_mul (pe_callTy intI (by rfl) (m_int c) (by decide +kernel) (pa_cons (pe_op op_add (pe_op op_add (pe_op op_mod (pe_callTy intI (by rfl) (m_int c) (by decide +kernel) (pa_cons (pv 2) pa_nil)) pe_int) (pe_op op_mul (pe_op op_mul pe_int (pv 3)) (pv 3))) pe_int) pa_nil)) pe_int) pe_int))
      (pss_cons (ps_set (i := 2) sc_law_draw.nd rfl (.inl rfl) (pe_op op_mod (pe_callTy intI (by rfl) (m_int c) (by decide +kernel) (pa_cons (pe_op op_add (pe_op op_add (pe_op op_mul (pv 2) (pv 2)) (pe_op op_mul pe_int (pv 3))) pe_int) pa_nil)) pe_int))
      (pss_one (ps_ret (pe_op op_mod (pe_op op_fdivN (pe_op op_mod (pe_callTy intI (by rfl) (m_int c) (by decide +kernel) (pa_cons (pe_op op_mul (pv 2) pe_int) pa_nil)) pe_int) pe_int) (pv 1))))))))), ?_⟩
    refine ⟨_, rfl, d, _, rfl, dget_draws (m := m) h1, _, _, rfl, rfl, _, rfl, d, _, rfl, DPut.k (k := Sum.inr "draws") h1 (by show 3 < sizeLine; decide), ?_⟩
    have e1 : upd H d (.dK (putK [(.inr "cells", .ref c'), (.inr "mixed", .int m), (.inr "draws", .int k)] (Sum.inr "draws") (.int (k + 1)))) d = some (.dK (dkD c' m (k + 1))) := upd_same
    have e2 : upd H d (.dK (putK [(.inr "cells", .ref c'), (.inr "mixed", .int m), (.inr "draws", .int k)] (Sum.inr "draws") (.int (k + 1)))) c' = some (.lst (nums cs)) := by rw [upd_ne n0.symm]; exact h2
    have bx : Bx d c' H (upd H d (.dK (putK [(.inr "cells", .ref c'), (.inr "mixed", .int m), (.inr "draws", .int k)] (Sum.inr "draws") (.int (k + 1))))) := fun a o h n1 n2 => by rw [upd_ne n1]; exact h
    generalize upd H d (.dK (putK [(.inr "cells", .ref c'), (.inr "mixed", .int m), (.inr "draws", .int k)] (Sum.inr "draws") (.int (k + 1)))) = H1 at e1 e2 bx
    refine ⟨_, rfl, d, _, rfl, dget_draws e1, _, rfl, d, _, rfl, dget_mixed e1, _, _, rfl, ?_⟩
    refine ⟨_, rfl, d, _, rfl, dget_cells e1, Nat.zero_le _, fun y hy => ?_⟩
    have sy := same_new (o := .lst []) hy
    have ey : upd H1 y (.lst []) y = some (.lst []) := upd_same
    have e1' := sy _ _ e1
    have e2' := sy _ _ e2
    have bx2 := bx.trans (Bx.same sy)
    generalize upd H1 y (.lst []) = H2 at sy ey e1' e2' bx2
    refine ⟨.list (cs.map PyData.int), .list [], dpL (SqL.of e2'), .lst (SqL.of ey) .nil, shaped_list cs, shaped_list [], ?_⟩
    rw [eqv_lnil]
    refine ⟨_, rfl, ?_⟩
    refine iteND (fun hne => ?_) (fun hne => ?_)
    · have lp := List.length_pos_iff.mpr hne
      obtain ⟨z, hz⟩ : ∃ z, cs[cs.length - 1]? = some z := ⟨_, List.getElem?_eq_getElem (by omega)⟩
      have hz' : (nums cs)[(nums cs).length - 1]? = some (.int z) := by
        rw [nums_len]
        unfold nums
        rw [List.getElem?_map, hz]
        rfl
      refine ⟨_, rfl, d, _, rfl, dget_cells e1', .inl ⟨rfl, _, SqL.of e2'⟩, c', _, _, rfl, rfl, e2', hz', ?_⟩
      have ed : (nums cs).dropLast = nums cs.dropLast := by unfold nums; rw [List.map_dropLast]
      have e3 : upd H2 c' (.lst (nums cs).dropLast) c' = some (.lst (nums cs.dropLast)) := by rw [upd_same, ed]
      have e4 : upd H2 c' (.lst (nums cs).dropLast) d = some (.dK (dkD c' m (k + 1))) := by rw [upd_ne n0]; exact e1'
      have bx3 : Bx d c' H (upd H2 c' (.lst (nums cs).dropLast)) := bx2.trans fun a o h n1 n2 => by rw [upd_ne n2]; exact h
      generalize upd H2 c' (.lst (nums cs).dropLast) = H3 at e3 e4 bx3
      refine ⟨_, rfl, _, _, rfl, rfl, ⟨by decide, by decide, by decide⟩, _, _, rfl, rfl, _, rfl, ?_⟩
      refine iteD (fun _ => ?_) (fun _ => ?_)
      · refine ⟨_, rfl, d, _, rfl, dget_cells e4, .inl ⟨rfl, _, SqL.of e3⟩, _, rfl, _, rfl, _, _, rfl, rfl, ⟨by omega, by omega⟩, c', _, _, rfl, rfl, e3, big (by rw [nums_len, List.length_dropLast]; omega), ?_⟩
        refine ⟨_, rfl, _, rfl, _, rfl, _, _, rfl, rfl, b0, ?_⟩
        refine q _ _ (Int.emod_nonneg _ (by omega)) (Int.emod_lt_of_pos _ b0) ⟨m, cs.dropLast ++ [z.fdiv b], by rw [upd_ne n0]; exact e4, by rw [upd_same, nums_snoc], by rw [List.length_append, List.length_dropLast]; simp; omega, m0, m1, by omega⟩ (bx3.trans fun a o h n1 n2 => by rw [upd_ne n2]; exact h)
      · refine ⟨_, rfl, _, rfl, _, rfl, _, _, rfl, rfl, (by show (0 : Int) < 2147483629; decide), _, _, rfl, rfl, ?_⟩
        refine ⟨_, rfl, _, rfl, _, _, rfl, rfl, (by show (0 : Int) < 2147483629; decide), _, rfl, _, _, rfl, rfl, .inl (by decide), _, rfl, _, _, rfl, rfl, .inl (by constructor <;> omega), _, _, rfl, rfl, _, _, rfl, rfl, _, rfl, _, _, rfl, rfl, .inr (by decide), _, _, rfl, rfl, (by show (0 : Int) < 2147483647; decide), ?_⟩
        generalize hF : (((m + z % 2147483629) % 2147483629 + 60509 * (k + 1) * (k + 1) + 186) * 48271 % 2147483647 : Int) = F
        have F0 : 0 ≤ F ∧ F < 2147483647 := by rw [← hF]; exact ⟨Int.emod_nonneg _ (by decide), Int.emod_lt_of_pos _ (by decide)⟩
        refine ⟨_, rfl, _, rfl, _, _, rfl, rfl, .inl (by constructor <;> omega), _, rfl, _, _, rfl, rfl, .inl (by decide), _, _, rfl, rfl, _, _, rfl, rfl, _, rfl, _, _, rfl, rfl, (by show (0 : Int) < 2147483579; decide), ?_⟩
        generalize hG : ((F * F + 69621 * (k + 1) + 186) % 2147483579 : Int) = G
        have G0 : 0 ≤ G ∧ G < 2147483579 := by rw [← hG]; exact ⟨Int.emod_nonneg _ (by decide), Int.emod_lt_of_pos _ (by decide)⟩
        refine ⟨_, rfl, _, _, rfl, rfl, .inl (by constructor <;> omega), _, rfl, _, _, rfl, rfl, (by show (0 : Int) < 2147483549; decide), _, _, rfl, rfl, ⟨by decide, by decide⟩, _, rfl, _, _, rfl, rfl, b0, ?_⟩
        exact q _ _ (Int.emod_nonneg _ (by omega)) (Int.emod_lt_of_pos _ b0) ⟨m,cs.dropLast,e4,e3,(by rw [List.length_dropLast]; omega),m0,m1,(by omega)⟩ bx3
    · skip
      refine ⟨_, rfl, _, rfl, _, _, rfl, rfl, (by show (0 : Int) < 2147483629; decide), _, rfl, _, _, rfl, rfl, .inl (by decide), _, rfl, _, _, rfl, rfl, .inl (by constructor <;> omega), _, _, rfl, rfl, _, _, rfl, rfl, _, rfl, _, _, rfl, rfl, .inr (by decide), _, _, rfl, rfl, (by show (0 : Int) < 2147483647; decide), ?_⟩
      generalize hF : ((m % 2147483629 + 60509 * (k + 1) * (k + 1) + 186) * 48271 % 2147483647 : Int) = F
      have F0 : 0 ≤ F ∧ F < 2147483647 := by rw [← hF]; exact ⟨Int.emod_nonneg _ (by decide), Int.emod_lt_of_pos _ (by decide)⟩
      refine ⟨_, rfl, _, rfl, _, _, rfl, rfl, .inl (by constructor <;> omega), _, rfl, _, _, rfl, rfl, .inl (by decide), _, _, rfl, rfl, _, _, rfl, rfl, _, rfl, _, _, rfl, rfl, (by show (0 : Int) < 2147483579; decide), ?_⟩
      generalize hG : ((F * F + 69621 * (k + 1) + 186) % 2147483579 : Int) = G
      have G0 : 0 ≤ G ∧ G < 2147483579 := by rw [← hG]; exact ⟨Int.emod_nonneg _ (by decide), Int.emod_lt_of_pos _ (by decide)⟩
      refine ⟨_, rfl, _, _, rfl, rfl, .inl (by constructor <;> omega), _, rfl, _, _, rfl, rfl, (by show (0 : Int) < 2147483549; decide), _, _, rfl, rfl, ⟨by decide, by decide⟩, _, rfl, _, _, rfl, rfl, b0, ?_⟩
      exact q _ _ (Int.emod_nonneg _ (by omega)) (Int.emod_lt_of_pos _ b0) ⟨m,cs,e1',e2',h3,m0,m1,(by omega)⟩ bx2
end
end K86
end
section
set_option maxHeartbeats 4000000
namespace K86
open PySem PySem.Spec PyProof.Rows L2
open C8 (Cal Met Mak pe_c pe_mk pe_mt pe_mt0)
/-! ### sorted rows rise -/
theorem eqv_key (x y : Key) (h : PyData.eqv (SetX.kD x) (SetX.kD y) = true) : x = y := by
  cases x with
  | inl a =>
    cases y with
    | inl b =>
      have : (a == b) = true := by simpa [SetX.kD, PyData.eqv] using h
      rw [eq_of_beq this]
    | inr b => simp [SetX.kD, PyData.eqv] at h
  | inr a =>
    cases y with
    | inl b => simp [SetX.kD, PyData.eqv] at h
    | inr b =>
      have : a = b := by simpa [SetX.kD, PyData.eqv] using h
      rw [this]
theorem tri_key (x y : Key) (h : PySem.W.alike (SetX.kD x) (SetX.kD y) = true) (h1 : PySem.W.dataLt (SetX.kD x) (SetX.kD y) = false) (h2 : PySem.W.dataLt (SetX.kD y) (SetX.kD x) = false) : x = y := by
  cases x with
  | inl a =>
    cases y with
    | inl b =>
      rw [show SetX.kD (.inl a) = .int a from rfl, show SetX.kD (.inl b) = .int b from rfl, PySem.W.dataLt_int] at h1 h2
      have a1 := of_decide_eq_false h1
      have a2 := of_decide_eq_false h2
      have : a = b := by omega
      rw [this]
    | inr b => simp [SetX.kD, PySem.W.alike] at h
  | inr a =>
    cases y with
    | inl b => simp [SetX.kD, PySem.W.alike] at h
    | inr b =>
      rw [show SetX.kD (.inr a) = .str a from rfl, show SetX.kD (.inr b) = .str b from rfl, PySem.W.dataLt_str] at h1 h2
      have a1 := of_decide_eq_false h1
      have a2 := of_decide_eq_false h2
      have : a.cps.toList = b.cps.toList := List.le_antisymm (Nat.le_refl 0 |> fun _ => a2) a1
      rw [PySem.W.str_of_cps this]
theorem tri_keys : ∀ (x y : List Key), PySem.W.alikeAll (x.map SetX.kD) (y.map SetX.kD) = true → PyProof.Rows.lexLt itemOrd (PySem.W.keyToksAll (x.map SetX.kD)) (PySem.W.keyToksAll (y.map SetX.kD)) = false → PyProof.Rows.lexLt itemOrd (PySem.W.keyToksAll (y.map SetX.kD)) (PySem.W.keyToksAll (x.map SetX.kD)) = false → x = y
  | [], [], _, _, _ => rfl
  | [], y :: ys, _, h, _ => by
    simp only [List.map_nil, List.map_cons, PySem.W.keyToksAll] at h
    rw [PyProof.Rows.lex_diff (O := itemOrd) (by decide)] at h
    exact absurd h (by decide)
  | x :: xs, [], _, _, h => by
    simp only [List.map_nil, List.map_cons, PySem.W.keyToksAll] at h
    rw [PyProof.Rows.lex_diff (O := itemOrd) (by decide)] at h
    exact absurd h (by decide)
  | x :: xs, y :: ys, ha, h1, h2 => by
    obtain ⟨a1, a2⟩ := PySem.W.alike_all_cons ha
    rw [List.map_cons, List.map_cons] at h1 h2
    cases e : PyData.eqv (SetX.kD x) (SetX.kD y) with
    | true =>
      have exy := eqv_key x y e
      subst exy
      rw [PySem.W.dataLt_all_yes a1 e] at h1 h2
      rw [tri_keys xs ys a2 h1 h2]
    | false =>
      have a1' : PySem.W.alike (SetX.kD y) (SetX.kD x) = true := by cases x <;> cases y <;> first | rfl | exact a1
      have e' : PyData.eqv (SetX.kD y) (SetX.kD x) = false := by
        cases e2 : PyData.eqv (SetX.kD y) (SetX.kD x) with
        | false => rfl
        | true =>
          have := eqv_key y x e2
          subst this
          rw [e2] at e
          cases e
      rw [PySem.W.dataLt_all_no a1 e] at h1
      rw [PySem.W.dataLt_all_no a1' e'] at h2
      have := tri_key x y a1 h1 h2
      subst this
      rw [PySem.W.eqv_refl_alike _ a1] at e
      cases e
theorem ris_of {M : List (List Key)} (al : ∀ x ∈ M, ∀ y ∈ M, PySem.W.alike (SetX.tD x) (SetX.tD y) = true) (nd : M.Nodup) (pw : M.Pairwise (fun q r => PySem.W.dataLt (SetX.tD r) (SetX.tD q) = false)) : Ris M := by
  intro i x y hx hy
  have xl := (List.getElem?_eq_some_iff.mp hx)
  have yl := (List.getElem?_eq_some_iff.mp hy)
  have mx := List.mem_of_getElem? hx
  have my := List.mem_of_getElem? hy
  have a := al x mx y my
  refine ⟨a, ?_⟩
  have h2 := List.pairwise_iff_getElem.mp pw i (i + 1) xl.1 yl.1 (by omega)
  rw [xl.2, yl.2] at h2
  cases e : PySem.W.dataLt (SetX.tD x) (SetX.tD y) with
  | true => rfl
  | false =>
    have exy : x = y := tri_keys x y (by simpa [SetX.tD, PySem.W.alike] using a) (by rw [← PySem.W.dataLt_tuple]; exact e) (by rw [← PySem.W.dataLt_tuple]; exact h2)
    subst exy
    have := (List.getElem?_inj xl.1 nd).mp (hx.trans hy.symm)
    omega
section
variable {P : Program} {w : World} {K : PySem.W.Frag} {mg : Str → Option Value} {base : Heap}
def N_law_pick : List Str := ["_law_deck_here", "_law_some"]
theorem sc_law_pick : FnScope N_law_pick ["_law_deck_here", "_law_some"] (defScope s_law_pick) := ⟨rfl, rfl, rfl, by decide +kernel, rfl, by decide +kernel, by decide +kernel⟩
def sp_law_pick (K : PySem.W.Frag) : Sp := fun vs H Q _ => ∃ (d c : Addr) (k : Int), DeckAt H d c k ∧ k ≤ 100000 ∧
  ((∃ (l : Addr) (xs : List V), vs = [.ref d, .ref l] ∧ l ≠ c ∧ H l = some (.lst xs) ∧ 0 < xs.length ∧ xs.length ≤ 100 ∧ ∀ H' v, v ∈ xs → DeckAt H' d c (k + 1) → Bx d c H H' → Q v H') ∨
   (vs = [.ref d, .str "aab"] ∧ ∀ H' (z : Str), (z = "a" ∨ z = "b") → DeckAt H' d c (k + 1) → Bx d c H H' → Q (.str z) H'))
theorem C_law_pick (c : Cn K mg) : Cal P w K mg base 2 "_law_pick" (sp_law_pick K) [] := by
  refine mkCal (F_law_pick c) (g_law_pick c) sc_law_pick (fun _ _ _ _ _ _ us hl => match us, hl with | [_, _], _ => rfl) (fun vs H Q E h => ?_) (fun cdv A outer s H vs Q E hr h => ?_)
  · obtain ⟨d, c, k, h1, h2, ⟨l, xs, rfl, _⟩ | ⟨rfl, _⟩⟩ := h
    · rfl
    · rfl
  · obtain ⟨d, c', k, h1, h2, hh⟩ := h
    refine ⟨_, (pss_one (ps_ret (pe_ix (ixA K) (pv 1) (pe_c (C_law_draw c) hr (by decide) rfl (pa_cons (pv 0) (pa_cons (pe_callB (lenA K) (by rfl) (m_len c) (by decide +kernel) (pa_cons (pv 1) pa_nil)) pa_nil))) (fun _ _ => rfl)))), ?_⟩
    rcases hh with ⟨l, xs, rfl, nl, hl, l0, l1, q⟩ | ⟨rfl, q⟩
    · have nd : l ≠ d := fun e => by
        obtain ⟨m, cs, e1, _⟩ := h1
        rw [e, e1] at hl
        cases hl
      refine ⟨_, rfl, _, rfl, _, rfl, .inl ⟨l, _, rfl, .inl (SqL.of hl), ?_⟩⟩
      refine ⟨d, c', k, _, rfl, h1, h2, by omega, by omega, fun H' r r0 r1 dk bx => ?_⟩
      have e : xs[r.toNat]? = some xs[r.toNat] := List.getElem?_eq_getElem (by omega)
      exact .inl ⟨l, _, _, _, rfl, rfl, SqL.of (bx _ _ hl nd nl), atI_int r0 e, q _ _ (List.mem_of_getElem? e) dk bx⟩
    · refine ⟨_, rfl, _, rfl, _, rfl, .inr ⟨"aab", rfl, by decide, ?_⟩⟩
      refine ⟨d, c', k, 3, rfl, h1, h2, by decide, by decide, fun H' r r0 r1 dk bx => ?_⟩
      have hr3 : r = 0 ∨ r = 1 ∨ r = 2 := by omega
      rcases hr3 with rfl | rfl | rfl
      · exact .inr ⟨"aab", _, 97, rfl, rfl, by decide, by decide +kernel, q H' "a" (.inl rfl) dk bx⟩
      · exact .inr ⟨"aab", _, 97, rfl, rfl, by decide, by decide +kernel, q H' "a" (.inl rfl) dk bx⟩
      · exact .inr ⟨"aab", _, 98, rfl, rfl, by decide, by decide +kernel, q H' "b" (.inr rfl) dk bx⟩
end
end K86
end
section
set_option maxHeartbeats 4000000
namespace K86
open PySem PySem.Spec PyProof.Rows L2
open C8 (Cal Met Mak pe_c pe_mk pe_mt pe_mt0)
section
variable {P : Program} {w : World} {K : PySem.W.Frag} {mg : Str → Option Value} {base : Heap}
def wD (n : Int) (i y o : Addr) : List (Key × V) := [(.inr "size", .int n), (.inr "in", .ref i), (.inr "ways", .ref y), (.inr "out", .ref o)]
/-- what is drawn: a machine's parts as lists -/
def WAt (K : PySem.W.Frag) (H : Hp) (w : Addr) (n : Int) (bs : List Bg) (ms : List Mv) (es : List Bg) : Prop := ∃ (i y o : Addr) (iv yv ov : List V), H w = some (.dK (wD n i y o)) ∧ H i = some (.lst iv) ∧ H y = some (.lst yv) ∧ H o = some (.lst ov) ∧ Rw Bg.vs K H iv bs ∧ Rw Mv.vs K H yv ms ∧ Rw Bg.vs K H ov es
structure WOk (n : Int) (bs : List Bg) (ms : List Mv) (es : List Bg) : Prop where
  n1 : 1 ≤ n
  n4 : n ≤ 4
  b : ∀ g ∈ bs, BgOk n g
  m : ∀ g ∈ ms, MvOk n g
  e : ∀ g ∈ es, BgOk n g
  rb : Ris (bs.map kB)
  rm : Ris (ms.map kM)
  re : Ris (es.map kB)
  lb : bs.length ≤ 2 ∧ 0 < bs.length
  lm : ms.length ≤ 7
  le : es.length ≤ 3
theorem WAt.same {H H' : Hp} {w : Addr} {n : Int} {bs : List Bg} {ms : List Mv} {es : List Bg} (h : WAt K H w n bs ms es) (s : Same H H') : WAt K H' w n bs ms es := by
  obtain ⟨i, y, o, iv, yv, ov, h1, h2, h3, h4, h5, h6, h7⟩ := h
  have m := Im.same s
  exact ⟨i, y, o, iv, yv, ov, s _ _ h1, s _ _ h2, s _ _ h3, s _ _ h4, m.rw h5, m.rw h6, m.rw h7⟩
theorem DeckAt.new {H : Hp} {d c l : Addr} {k : Int} (h : DeckAt H d c k) (hl : H l = none) : l ≠ d ∧ l ≠ c := by
  obtain ⟨m, cs, h1, h2, _⟩ := h
  exact ⟨(ne_of_none h1 hl).symm, (ne_of_none h2 hl).symm⟩
/-- rows with their addresses -/
theorem rows_of {H : Hp} : ∀ {vs : List V} {xs : List (List Key)}, Rw RowK K H vs xs → ∃ ks : List SetX.Row, vs = ks.map (fun p => V.ref p.1) ∧ ks.map (·.2) = xs ∧ ∀ p ∈ ks, SqT K H p.1 (p.2.map kV)
  | [], [], _ => ⟨[], rfl, rfl, fun p h => nomatch h⟩
  | v :: vs, x :: xs, h => by
    obtain ⟨a, e, hs⟩ := h.2 0 x rfl
    cases e
    obtain ⟨ks, e1, e2, e3⟩ := rows_of (vs := vs) (xs := xs) ⟨by have := h.1; simpa using this, fun i y hy => by
      obtain ⟨a2, q1, q2⟩ := h.2 (i + 1) y hy
      exact ⟨a2, q1, q2⟩⟩
    refine ⟨(a, x) :: ks, by rw [e1]; rfl, by rw [List.map_cons, e2], fun p hp => ?_⟩
    rcases List.mem_cons.mp hp with e | e
    · rw [e]; exact hs
    · exact e3 p e
  | [], x :: xs, h => by have := h.1; simp at this
  | v :: vs, [], h => by have := h.1; simp at this
theorem rw_of {H : Hp} {ks : List SetX.Row} (h : ∀ p ∈ ks, SqT K H p.1 (p.2.map kV)) : Rw RowK K H (ks.map fun p => V.ref p.1) (ks.map (·.2)) := by
  refine ⟨by rw [List.length_map, List.length_map], fun i x hx => ?_⟩
  rw [List.getElem?_map] at hx
  obtain ⟨p, e1, e2⟩ := Option.map_eq_some_iff.mp hx
  subst e2
  exact ⟨p.1, by rw [List.getElem?_map, e1]; rfl, h p (List.mem_of_getElem? e1)⟩
theorem lift_map {α : Type} {kf : α → List Key} {xs : List α} : ∀ {M : List (List Key)}, (∀ k ∈ M, k ∈ xs.map kf) → ∃ gs : List α, gs.map kf = M ∧ ∀ g ∈ gs, g ∈ xs
  | [], _ => ⟨[], rfl, fun g h => nomatch h⟩
  | k :: M, h => by
    obtain ⟨gs, e1, e2⟩ := lift_map (kf := kf) (xs := xs) (M := M) fun x hx => h x (List.mem_cons_of_mem _ hx)
    obtain ⟨g, g1, g2⟩ := List.mem_map.mp (h k List.mem_cons_self)
    refine ⟨g :: gs, by rw [List.map_cons, e1, g2], fun x hx => ?_⟩
    rcases List.mem_cons.mp hx with e | e
    · rw [e]; exact g1
    · exact e2 x e
theorem rw_back {α : Type} {f : α → List V} {kf : α → List Key} {H : Hp} {vs : List V} {gs : List α} (e : ∀ x, RowK (kf x) = f x) (h : Rw RowK K H vs (gs.map kf)) : Rw f K H vs gs := by
  refine ⟨by have := h.1; rw [List.length_map] at this; exact this, fun i x hx => ?_⟩
  obtain ⟨a, h1, h2⟩ := h.2 i (kf x) (by rw [List.getElem?_map, hx]; rfl)
  exact ⟨a, h1, by rw [← e]; exact h2⟩
/-- the reading of sorted(set(xs)), xs rows of one shape -/
theorem sorted_set {α : Type} {P : Program} {w : World} (f : α → List V) (kf : α → List Key) (ef : ∀ x, RowK (kf x) = f x) (al : ∀ x y, PySem.W.alike (SetX.tD (kf x)) (SetX.tD (kf y)) = true) (nn : ∀ x, kf x ≠ []) {H : Hp} {l : Addr} {vs : List V} {xs : List α} {Q : VK} (hl : SqL K H l vs) (hr : Rw f K H vs xs) (h15 : xs.length < 16)
    (q : ∀ H' p gv gs, Same H H' → H p = none → H' p = some (.lst gv) → Rw f K H' gv gs → (∀ g ∈ gs, g ∈ xs) → (∀ g ∈ xs, kf g ∈ gs.map kf) → Ris (gs.map kf) → gs.length ≤ xs.length → Q (.ref p) H') :
    SetX.rSetM K P w [.ref l] H (fun v H1 => SetX.rSortedM K P w [v] H1 Q) := by
  obtain ⟨ks, e1, e2, e3⟩ := rows_of (hr.map (f := RowK) (h := kf) ef)
  have kl : ks.length = xs.length := by
    have := congrArg List.length e2
    rwa [List.length_map, List.length_map] at this
  refine ⟨l, ks, rfl, e1 ▸ hl, e3, by omega, fun p L hp sub cov nd => ?_⟩
  have s1 := same_new (o := SetX.SetMO P w p L) hp
  have shape : ∀ {k : List Key}, k ∈ L.map (·.2) → ∃ x ∈ xs, k = kf x := fun {k} hk => by
    obtain ⟨r, h1, h2⟩ := List.mem_map.mp hk
    have : r.2 ∈ xs.map kf := by rw [← e2]; exact List.mem_map_of_mem (sub r h1)
    obtain ⟨x, x1, x2⟩ := List.mem_map.mp this
    exact ⟨x, x1, by rw [← h2, x2]⟩
  refine ⟨p, L, rfl, upd_same, fun r hr => sqT_same (e3 r (sub r hr)) s1, ?_, fun r hr => ?_, fun p2 M hp2 pm pw => ?_⟩
  · intro d hd d' hd'
    obtain ⟨r, h1, rfl⟩ := List.mem_map.mp hd
    obtain ⟨r', h1', rfl⟩ := List.mem_map.mp hd'
    obtain ⟨x, _, ex⟩ := shape (List.mem_map_of_mem (f := (·.2)) h1)
    obtain ⟨x', _, ex'⟩ := shape (List.mem_map_of_mem (f := (·.2)) h1')
    show PySem.W.alike (SetX.tD r.2) (SetX.tD r'.2) = true
    rw [ex, ex']
    exact al x x'
  · obtain ⟨x, _, ex⟩ := shape (List.mem_map_of_mem (f := (·.2)) hr)
    rw [ex]
    exact nn x
  · have s2 := same_new (o := .lst (M.map fun q => V.ref q.1)) hp2
    have s12 := s1.trans s2
    have memM : ∀ r ∈ M, r ∈ ks := fun r hr => sub r (pm.mem_iff.mp hr)
    obtain ⟨gs, g1, g2⟩ := lift_map (kf := kf) (xs := xs) (M := M.map (·.2)) fun k hk => by
      obtain ⟨r, h1, h2⟩ := List.mem_map.mp hk
      rw [← e2, ← h2]
      exact List.mem_map_of_mem (memM r h1)
    refine q _ p2 _ gs s12 (s1.free hp2) upd_same ?_ g2 (fun g hg => ?_) ?_ ?_
    · refine rw_back ef ?_
      rw [g1]
      exact rw_of fun r hr => sqT_same (e3 r (memM r hr)) s12
    · rw [g1]
      have h0 : kf g ∈ ks.map (·.2) := by rw [e2]; exact List.mem_map_of_mem hg
      obtain ⟨r, h1, h2⟩ := List.mem_map.mp h0
      have := cov r h1
      rw [h2] at this
      obtain ⟨r', h3, h4⟩ := List.mem_map.mp this
      exact List.mem_map.mpr ⟨r', pm.mem_iff.mpr h3, h4⟩
    · rw [g1]
      refine ris_of (fun x hx y hy => ?_) ((pm.map _).nodup_iff.mpr nd) ?_
      · rw [← g1] at hx hy
        obtain ⟨a, _, rfl⟩ := List.mem_map.mp hx
        obtain ⟨b, _, rfl⟩ := List.mem_map.mp hy
        exact al a b
      · rw [List.pairwise_map]
        exact pw
    · have l1 : gs.length = M.length := by
        have := congrArg List.length g1
        rwa [List.length_map, List.length_map] at this
      have l2 := nd.length_le_of_subset (l₂ := ks.map (·.2)) fun k hk => by
        obtain ⟨r, h1, h2⟩ := List.mem_map.mp hk
        rw [← h2]
        exact List.mem_map_of_mem (sub r h1)
      rw [List.length_map, List.length_map] at l2
      rw [l1, pm.length_eq]
      omega
end
end K86
end
section
set_option maxHeartbeats 4000000
namespace K86
open PySem PySem.Spec PyProof.Rows L2
open C8 (Cal Met Mak pe_c pe_mk pe_mt pe_mt0)
section
variable {P : Program} {w : World} {K : PySem.W.Frag} {mg : Str → Option Value} {base : Heap}
def PoolAt (H : Hp) (pl : Addr) : Prop := ∃ pv : List V, H pl = some (.lst pv) ∧ (∀ v ∈ pv, ∃ z, v = .str z ∧ WordOk z) ∧ 0 < pv.length ∧ pv.length ≤ 100
theorem alB (x y : Bg) : PySem.W.alike (SetX.tD (kB x)) (SetX.tD (kB y)) = true := rfl
theorem alM (x y : Mv) : PySem.W.alike (SetX.tD (kM x)) (SetX.tD (kM y)) = true := rfl
theorem wx0 : WordOk "" := ⟨by decide +kernel, by decide +kernel⟩
theorem wx1 : WordOk "x" := ⟨by decide +kernel, by decide +kernel⟩
theorem wx2 : WordOk "y" := ⟨by decide +kernel, by decide +kernel⟩
theorem wx3 : WordOk "xx" := ⟨by decide +kernel, by decide +kernel⟩
theorem wx4 : WordOk "xy" := ⟨by decide +kernel, by decide +kernel⟩
theorem Bx.wr {d c l : Addr} {H H' : Hp} {o : HO} (h : Bx d c H H') (hl : H l = none) : Bx d c H (upd H' l o) := fun a u e g1 g2 => by
  rw [upd_ne (ne_of_none e hl)]
  exact h a u e g1 g2
def N_law_drawn : List Str := ["_law_deck_here", "_law_pool", "_law_k", "_law_begins", "_law_goals", "_law_count", "_law_ways"]
theorem sc_law_drawn : FnScope N_law_drawn ["_law_deck_here"] (defScope s_law_drawn) := ⟨rfl, rfl, rfl, by decide +kernel, rfl, by decide +kernel, by decide +kernel⟩
def sp_law_drawn (K : PySem.W.Frag) : Sp := fun vs H Q _ => ∃ (d c : Addr) (k : Int), vs = [.ref d] ∧ DeckAt H d c k ∧ k ≤ 90000 ∧ ∀ H' w n bs ms es k', Bx d c H H' → H w = none → DeckAt H' d c k' → k' ≤ k + 100 → (∀ H'', Bx d c H' H'' → WAt K H'' w n bs ms es) → WOk n bs ms es → Q (.ref w) H'
theorem word_at {pv : List V} {v : V} (h : ∀ v ∈ pv, ∃ z, v = .str z ∧ WordOk z) (hv : v ∈ pv) : ∃ z, v = .str z ∧ WordOk z := h v hv
theorem C_law_drawn (c : Cn K mg) : Cal P w K mg base 3 "_law_drawn" (sp_law_drawn K) [] := by
  refine mkCal (F_law_drawn c) (g_law_drawn c) sc_law_drawn (fun _ _ _ _ _ _ us hl => match us, hl with | [_], _ => rfl) (fun vs H Q E h => ?_) (fun cdv A outer s H vs Q E hr h => ?_)
  · obtain ⟨d, c, k, rfl, _⟩ := h
    rfl
  · obtain ⟨d, c', k, rfl, dk0, hk, q⟩ := h
    have hu := hu_of hr
    refine ⟨_, (pss_cons (ps_set (i := 1) sc_law_drawn.nd rfl (.inr rfl) (pe_c (C_law_pick c) hr (by decide) rfl (pa_cons (pv 0) (pa_cons (pe_lst (pa_cons (pe_lst (pa_cons pe_str (pa_cons pe_str pa_nil))) (pa_cons (pe_lst (pa_cons pe_str (pa_cons pe_str pa_nil))) (pa_cons (pe_lst (pa_cons pe_str (pa_cons pe_str (pa_cons pe_str pa_nil)))) (pa_cons (pe_lst (pa_cons pe_str (pa_cons pe_str (pa_cons pe_str pa_nil)))) (pa_cons (pe_lst (pa_cons pe_str (pa_cons pe_str pa_nil))) pa_nil)))))) pa_nil))))
      (pss_cons (ps_asg (pe_tup (pa_cons (pe_op op_add pe_int (pe_c (C_law_draw c) hr (by decide) rfl (pa_cons (pv 0) (pa_cons pe_int pa_nil)))) (pa_cons (pe_lst pa_nil) pa_nil))) (pgT K (n := 2) rfl (pgs_cons (pg_name (i := 5) sc_law_drawn.nd rfl (.inr rfl)) (pgs_cons (pg_name (i := 6) sc_law_drawn.nd rfl (.inl rfl)) pgs_nil))))
      (pss_cons (ps_for PassesOwn.never rfl (pi_range1 (by rfl) (m_range c) (pa_cons (pe_c (C_law_draw c) hr (by decide) rfl (pa_cons (pv 0) (pa_cons pe_int pa_nil))) pa_nil)) (pg_name (i := 2) sc_law_drawn.nd rfl (.inl rfl))
        (pss_one (ps_expr (pe_bm PySem.F.plainAttrs_list PySem.F.slot_list_append PySem.F.type_list_append mt_append (pv 6) (pa_cons (pe_tup (pa_cons (pe_c (C_law_draw c) hr (by decide) rfl (pa_cons (pv 0) (pa_cons (pv 5) pa_nil))) (pa_cons (pe_c (C_law_pick c) hr (by decide) rfl (pa_cons (pv 0) (pa_cons pe_str pa_nil))) (pa_cons (pe_c (C_law_pick c) hr (by decide) rfl (pa_cons (pv 0) (pa_cons (pv 1) pa_nil))) (pa_cons (pe_c (C_law_draw c) hr (by decide) rfl (pa_cons (pv 0) (pa_cons (pv 5) pa_nil))) pa_nil))))) pa_nil)))))
      (pss_cons (ps_set (i := 3) sc_law_drawn.nd rfl (.inl rfl) (pe_lst (pa_cons (pe_tup (pa_cons pe_int (pa_cons (pe_c (C_law_pick c) hr (by decide) rfl (pa_cons (pv 0) (pa_cons (pv 1) pa_nil))) pa_nil))) pa_nil)))
      (pss_cons (ps_if (pt_cmpR op_eq (pe_c (C_law_draw c) hr (by decide) rfl (pa_cons (pv 0) (pa_cons pe_int pa_nil))) pe_int (nomark _))
        (pss_one (ps_expr (pe_bm PySem.F.plainAttrs_list PySem.F.slot_list_append PySem.F.type_list_append mt_append (pv 3) (pa_cons (pe_tup (pa_cons (pe_c (C_law_draw c) hr (by decide) rfl (pa_cons (pv 0) (pa_cons (pv 5) pa_nil))) (pa_cons (pe_c (C_law_pick c) hr (by decide) rfl (pa_cons (pv 0) (pa_cons (pv 1) pa_nil))) pa_nil))) pa_nil))))
        pss_nil)
      (pss_cons (ps_set (i := 4) sc_law_drawn.nd rfl (.inl rfl) (pe_op op_cat (pe_lc (own := [("_law_k", 2)]) rfl sc_law_drawn.nd (pi_range1 (by rfl) (m_range c) (pa_cons (pe_c (C_law_draw c) hr (by decide) rfl (pa_cons (pv 0) (pa_cons pe_int pa_nil))) pa_nil)) (blkOk_by (own := [("_law_k", 2)]) (N := N_law_drawn) (sc := defScope s_law_drawn) (by decide +kernel)) (fun _ _ _ _ _ => (pg_name (i := 2) sc_law_drawn.nd rfl (.inl rfl))) (fun _ _ _ _ _ => pts_nil) (fun _ _ _ _ _ => (pe_tup (pa_cons (pe_c (C_law_draw c) hr (by decide) rfl (pa_cons (pv 0) (pa_cons (pv 5) pa_nil))) (pa_cons (pe_c (C_law_pick c) hr (by decide) rfl (pa_cons (pv 0) (pa_cons (pv 1) pa_nil))) pa_nil))))) (pe_lst (pa_cons (pe_tup (pa_cons (pe_op op_sub (pv 5) pe_int) (pa_cons pe_str pa_nil))) pa_nil))))
      (pss_one (ps_ret (pe_disp (pps_cons pe_str (pv 5) (pps_cons pe_str (pe_callB (SetX.cr_sortedM rfl hr.units) (by rfl) (m_sorted c) (by decide +kernel) (pa_cons (pe_callTy (SetX.cr_setM rfl hr.units) (by rfl) (m_set c) (by decide +kernel) (pa_cons (pv 3) pa_nil)) pa_nil)) (pps_cons pe_str (pe_callB (SetX.cr_sortedM rfl hr.units) (by rfl) (m_sorted c) (by decide +kernel) (pa_cons (pe_callTy (SetX.cr_setM rfl hr.units) (by rfl) (m_set c) (by decide +kernel) (pa_cons (pv 6) pa_nil)) pa_nil)) (pps_cons pe_str (pe_callB (SetX.cr_sortedM rfl hr.units) (by rfl) (m_sorted c) (by decide +kernel) (pa_cons (pe_callTy (SetX.cr_setM rfl hr.units) (by rfl) (m_set c) (by decide +kernel) (pa_cons (pv 4) pa_nil)) pa_nil)) pps_nil)))) (by rfl) (by rfl) (fun z => by cases z) (by decide)))))))))), ?_⟩
    -- the pools
    refine ⟨_, rfl, (by show 2 ≤ sizeLine; decide), fun l1 h1 => ⟨(by show 2 ≤ sizeLine; decide), fun l2 h2 => ⟨(by show 3 ≤ sizeLine; decide), fun l3 h3 => ⟨(by show 3 ≤ sizeLine; decide), fun l4 h4 => ⟨(by show 2 ≤ sizeLine; decide), fun l5 h5 => ⟨(by show 5 ≤ sizeLine; decide), fun l0 h0 => ?_⟩⟩⟩⟩⟩⟩
    have s1 := same_new (o := .lst [.str "", .str "x"]) h1
    have e1 : upd H l1 (.lst [.str "", .str "x"]) l1 = some (.lst [.str "", .str "x"]) := upd_same
    generalize upd H l1 (.lst [.str "", .str "x"]) = H1 at s1 e1 h2 h3 h4 h5 h0
    have s2 := same_new (o := .lst [.str "x", .str "y"]) h2
    have e2 : upd H1 l2 (.lst [.str "x", .str "y"]) l2 = some (.lst [.str "x", .str "y"]) := upd_same
    generalize upd H1 l2 (.lst [.str "x", .str "y"]) = H2 at s2 e2 h3 h4 h5 h0
    have s3 := same_new (o := .lst [.str "", .str "x", .str "xx"]) h3
    have e3 : upd H2 l3 (.lst [.str "", .str "x", .str "xx"]) l3 = some (.lst [.str "", .str "x", .str "xx"]) := upd_same
    generalize upd H2 l3 (.lst [.str "", .str "x", .str "xx"]) = H3 at s3 e3 h4 h5 h0
    have s4 := same_new (o := .lst [.str "xy", .str "x", .str ""]) h4
    have e4 : upd H3 l4 (.lst [.str "xy", .str "x", .str ""]) l4 = some (.lst [.str "xy", .str "x", .str ""]) := upd_same
    generalize upd H3 l4 (.lst [.str "xy", .str "x", .str ""]) = H4 at s4 e4 h5 h0
    have s5 := same_new (o := .lst [.str "", .str "xx"]) h5
    have e5 : upd H4 l5 (.lst [.str "", .str "xx"]) l5 = some (.lst [.str "", .str "xx"]) := upd_same
    generalize upd H4 l5 (.lst [.str "", .str "xx"]) = H5 at s5 e5 h0
    have s6 := same_new (o := .lst [.ref l1, .ref l2, .ref l3, .ref l4, .ref l5]) h0
    have e6 : upd H5 l0 (.lst [.ref l1, .ref l2, .ref l3, .ref l4, .ref l5]) l0 = some (.lst [.ref l1, .ref l2, .ref l3, .ref l4, .ref l5]) := upd_same
    generalize upd H5 l0 (.lst [.ref l1, .ref l2, .ref l3, .ref l4, .ref l5]) = H6 at s6 e6
    have s06 : Same H H6 := ((((s1.trans s2).trans s3).trans s4).trans s5).trans s6
    have dk6 := dk0.same s06
    have n0 : l0 ≠ d ∧ l0 ≠ c' := dk0.new (((((s1.trans s2).trans s3).trans s4).trans s5).free h0)
    have pools : ∀ v ∈ [V.ref l1, .ref l2, .ref l3, .ref l4, .ref l5], ∃ pl, v = .ref pl ∧ PoolAt H6 pl ∧ H pl = none := by
      intro v hv
      simp only [List.mem_cons, List.mem_singleton, List.not_mem_nil, or_false] at hv
      rcases hv with rfl | rfl | rfl | rfl | rfl
      · exact ⟨l1, rfl, ⟨_, s6 _ _ (s5 _ _ (s4 _ _ (s3 _ _ (s2 _ _ e1)))), by simp [wx0, wx1], by decide, by decide⟩, h1⟩
      · exact ⟨l2, rfl, ⟨_, s6 _ _ (s5 _ _ (s4 _ _ (s3 _ _ e2))), by simp [wx1, wx2], by decide, by decide⟩, s1.free h2⟩
      · exact ⟨l3, rfl, ⟨_, s6 _ _ (s5 _ _ (s4 _ _ e3)), by simp [wx0, wx1, wx3], by decide, by decide⟩, (s1.trans s2).free h3⟩
      · exact ⟨l4, rfl, ⟨_, s6 _ _ (s5 _ _ e4), by simp [wx0, wx1, wx4], by decide, by decide⟩, ((s1.trans s2).trans s3).free h4⟩
      · exact ⟨l5, rfl, ⟨_, s6 _ _ e5, by simp [wx0, wx3], by decide, by decide⟩, (((s1.trans s2).trans s3).trans s4).free h5⟩
    refine ⟨d, c', k, dk6, by omega, .inl ⟨l0, _, rfl, n0.2, e6, (by show 0 < 5; decide), (by show 5 ≤ 100; decide), fun H7 v hv dk7 bx7 => ?_⟩⟩
    obtain ⟨pl, rfl, pool6, pl0⟩ := pools v hv
    obtain ⟨np1, np2⟩ := dk0.new pl0
    obtain ⟨pv, ep, wp, pn0, pn1⟩ := pool6
    have ep7 := bx7 _ _ ep np1 np2
    have bx07 : Bx d c' H H7 := (Bx.same s06).trans bx7
    clear e1 e2 e3 e4 e5 e6 h0 h1 h2 h3 h4 h5 pools s1 s2 s3 s4 s5 s6 dk6 n0 hv bx7 s06 ep
    -- count and ways
    refine ⟨_, rfl, d, c', k + 1, 4, rfl, dk7, by omega, by decide, by decide, fun H8 r r0 r1 dk8 bx8 => ?_⟩
    have ep8 := bx8 _ _ ep7 np1 np2
    have bx08 := bx07.trans bx8
    refine ⟨_, _, rfl, rfl, Nat.zero_le _, fun yl hyl => ⟨(by show 2 ≤ sizeLine; decide), fun tp htp => ?_⟩⟩
    obtain ⟨cm, ccs, cd1, cd2, cd3⟩ := dk8
    have dk8 : DeckAt H8 d c' (k + 1 + 1) := ⟨cm, ccs, cd1, cd2, cd3⟩
    obtain ⟨ny1, ny2⟩ := dk8.new hyl
    have nyp : pl ≠ yl := ne_of_none ep8 hyl
    have s9 := same_new (o := .lst []) hyl
    have ey9 : upd H8 yl (.lst []) yl = some (.lst []) := upd_same
    generalize upd H8 yl (.lst []) = H9 at s9 ey9 htp
    have s10 := same_new (o := .tup [.int (1 + r), .ref yl]) htp
    have et10 : upd H9 tp (.tup [.int (1 + r), .ref yl]) tp = some (.tup [.int (1 + r), .ref yl]) := upd_same
    generalize upd H9 tp (.tup [.int (1 + r), .ref yl]) = H10 at s10 et10
    have s810 := s9.trans s10
    have ep10 := s810 _ _ ep8
    have ey10 := s10 _ _ ey9
    have dk10 := dk8.same s810
    have bx010 : Bx d c' H H10 := bx08.trans (Bx.same s810)
    have hyl0 : H yl = none := by
      cases e : H yl with
      | none => rfl
      | some o =>
        have := bx08 _ _ e ny1 ny2
        rw [hyl] at this
        cases this
    refine ⟨tp, _, rfl, SqT.of et10, rfl, _, _, rfl, _, _, rfl, rfl, ?_⟩
    generalize hn : (1 + r : Int) = n at et10
    have n1 : 1 ≤ n := by omega
    have n4 : n ≤ 4 := by omega
    clear hn htp hyl s9 s10 s810 ey9 et10 dk8 cd1 cd2 cd3 ep8 bx08 bx8 ep7 bx07 dk7
    -- the ways
    refine ⟨_, rfl, d, c', k + 1 + 1, 8, rfl, dk10, by omega, by decide, by decide, fun H11 r2 r20 r21 dk11 bx11 => ?_⟩
    have bx011 := bx010.trans bx11
    have ep11 := bx11 _ _ ep10 np1 np2
    have ey11 := bx11 _ _ ey10 ny1 ny2
    refine ⟨r2, rfl, (by omega), (by omega), for_range (lo := 0) (n := r2.toNat) (fun i σ H' => ∃ x2 x3 x4 ms kk yv, σ = [some (.ref d), some (.ref pl), x2, x3, x4, some (.int n), some (.ref yl)] ∧ Bx d c' H H' ∧ DeckAt H' d c' kk ∧ kk ≤ k + 3 + 4 * (i : Nat) ∧ H' pl = some (.lst pv) ∧ H' yl = some (.lst yv) ∧ Rw Mv.vs K H' yv ms ∧ (∀ m ∈ ms, MvOk n m) ∧ ms.length = i)
      ⟨_, _, _, [], _, [], rfl, bx011, dk11, by omega, ep11, ey11, Rw.nil, fun m hm => (nomatch hm), rfl⟩ ?_ ?_⟩
    · rintro i σ H12 hi ⟨x2, x3, x4, ms, kk, yv, rfl, bx12, dk12, hkk, ep12, ey12, rw12, ok12, len12⟩
      refine ⟨_, rfl, .inl ⟨rfl, _, SqL.of ey12⟩, _, rfl, _, rfl, d, c', kk, n, rfl, dk12, by omega, by omega, by omega, fun H13 s0 s00 s01 dk13 bx13 => ?_⟩
      have ep13 := bx13 _ _ ep12 np1 np2
      refine ⟨_, rfl, d, c', _, dk13, by omega, .inr ⟨rfl, fun H14 z1 hz1 dk14 bx14 => ?_⟩⟩
      have ep14 := bx14 _ _ ep13 np1 np2
      refine ⟨_, rfl, _, rfl, d, c', _, dk14, by omega, .inl ⟨pl, pv, rfl, np2, ep14, pn0, pn1, fun H15 v hv dk15 bx15 => ?_⟩⟩
      obtain ⟨z, rfl, wz⟩ := wp v hv
      have ep15 := bx15 _ _ ep14 np1 np2
      refine ⟨_, rfl, _, rfl, d, c', _, n, rfl, dk15, by omega, by omega, by omega, fun H16 t0 t00 t01 dk16 bx16 => ?_⟩
      have ep16 := bx16 _ _ ep15 np1 np2
      have bx1216 : Bx d c' H12 H16 := ((bx13.trans bx14).trans bx15).trans bx16
      have ey16 := bx1216 _ _ ey12 ny1 ny2
      have rw16 := (dk12.im bx1216).rw rw12
      refine ⟨(by show 4 ≤ sizeLine; decide), fun y hy => ?_⟩
      have sy := same_new (o := .tup [.int s0, .str z1, .str z, .int t0]) hy
      have eyy : upd H16 y (.tup [.int s0, .str z1, .str z, .int t0]) y = some (.tup [.int s0, .str z1, .str z, .int t0]) := upd_same
      have ep17 := sy _ _ ep16
      have ey17 := sy _ _ ey16
      have rw17 := (Im.same sy).rw rw16
      have dk17 := dk16.same sy
      have bx17 : Bx d c' H _ := (bx12.trans bx1216).trans (Bx.same sy)
      generalize upd H16 y (.tup [.int s0, .str z1, .str z, .int t0]) = H17 at sy eyy ep17 ey17 rw17 dk17 bx17
      have il7 : i < 7 ∨ i ≥ 7 := by omega
      have yl9 : yv.length < sizeLine := big (by rw [rw17.1, len12]; omega)
      refine ⟨yl, yv, _, rfl, rfl, ey17, yl9, ?_⟩
      have nylp : pl ≠ yl := nyp
      refine ⟨_, _, _, ms ++ [⟨s0, z1, z, t0⟩], kk + 1 + 1 + 1 + 1, _, rfl, Bx.wr bx17 hyl0, ?_, ?_, ?_, upd_same, ?_, fun m hm => ?_, by rw [List.length_append, len12]; rfl⟩
      · obtain ⟨mm, cc, q1, q2, q3⟩ := dk17
        exact ⟨mm, cc, by rw [upd_ne ny1.symm]; exact q1, by rw [upd_ne ny2.symm]; exact q2, q3⟩
      · have : ((i + 1 : Nat) : Int) = (i : Int) + 1 := by omega
        omega
      · rw [upd_ne nylp]; exact ep17
      · refine Rw.snoc ((im_lst ey17).rw rw17) ?_
        exact (im_lst ey17).sq (SqT.of eyy)
      · rcases List.mem_append.mp hm with h | h
        · exact ok12 m h
        · have : m = ⟨s0, z1, z, t0⟩ := by simpa using h
          rw [this]
          exact ⟨s00, s01, t00, t01, wz, hz1⟩
    rintro σ H12 ⟨x2, x3, x4, ms, kk, yv, rfl, bx12, dk12, hkk, ep12, ey12, rw12, ok12, len12⟩
    have ml7 : ms.length ≤ 7 := by omega
    have hkk2 : kk ≤ k + 31 := by omega
    clear dk10 ep10 ey10 bx010 dk11 bx11 bx011 ep11 ey11 hkk
    -- the begins
    refine ⟨_, rfl, _, rfl, d, c', _, dk12, by omega, .inl ⟨pl, pv, rfl, np2, ep12, pn0, pn1, fun H13 v hv dk13 bx13 => ?_⟩⟩
    obtain ⟨zb, rfl, wzb⟩ := wp v hv
    have ep13 := bx13 _ _ ep12 np1 np2
    have ey13 := bx13 _ _ ey12 ny1 ny2
    have rw13 := (dk12.im bx13).rw rw12
    have bx013 := bx12.trans bx13
    refine ⟨(by show 2 ≤ sizeLine; decide), fun bt hbt => ⟨(by show 1 ≤ sizeLine; decide), fun bl hbl => ?_⟩⟩
    have s14 := same_new (o := .tup [.int 0, .str zb]) hbt
    have et14 : upd H13 bt (.tup [.int 0, .str zb]) bt = some (.tup [.int 0, .str zb]) := upd_same
    generalize upd H13 bt (.tup [.int 0, .str zb]) = H14 at s14 et14 hbl
    have s15 := same_new (o := .lst [.ref bt]) hbl
    have eb15 : upd H14 bl (.lst [.ref bt]) bl = some (.lst [.ref bt]) := upd_same
    have nbl := (dk13.same s14).new hbl
    have nbp : pl ≠ bl := ne_of_none (s14 _ _ ep13) hbl
    have nby : yl ≠ bl := ne_of_none (s14 _ _ ey13) hbl
    have hbl0 : H bl = none := by
      cases e : H bl with
      | none => rfl
      | some o =>
        have := s14 _ _ (bx013 _ _ e nbl.1 nbl.2)
        rw [hbl] at this
        cases this
    have et15 := s15 _ _ et14
    generalize upd H14 bl (.lst [.ref bt]) = H15 at s15 eb15 et15
    have s1315 := s14.trans s15
    have ep15 := s1315 _ _ ep13
    have ey15 := s1315 _ _ ey13
    have rw15 := (Im.same s1315).rw rw13
    have dk15 := dk13.same s1315
    have bx015 : Bx d c' H H15 := bx013.trans (Bx.same s1315)
    have rwb : Rw Bg.vs K H15 [.ref bt] [⟨0, zb⟩] := Rw.snoc (f := Bg.vs) (xs := []) Rw.nil (SqT.of et15)
    refine ⟨_, rfl, d, c', _, 2, rfl, dk15, by omega, by decide, by decide, fun H16 r3 r30 r31 dk16 bx16 => ?_⟩
    have ep16 := bx16 _ _ ep15 np1 np2
    have ey16 := bx16 _ _ ey15 ny1 ny2
    have rw16 := (dk15.im bx16).rw rw15
    have rwb16 := (dk15.im bx16).rw rwb
    have eb16 := bx16 _ _ eb15 nbl.1 nbl.2
    have bx016 := bx015.trans bx16
    clear et14 eb15 et15 ep15 ey15 rw15 dk15 bx015 rwb bx16 ep13 ey13 rw13 bx13 dk13
    refine ⟨rfl, _, rfl, ?_⟩
    refine iteD (fun _ => ?_) (fun _ => ?_)
    · refine ⟨_, rfl, .inl ⟨rfl, _, SqL.of eb16⟩, _, rfl, _, rfl, d, c', _, n, rfl, dk16, by omega, by omega, by omega, fun H17 s0 s00 s01 dk17 bx17 => ?_⟩
      have ep17 := bx17 _ _ ep16 np1 np2
      refine ⟨_, rfl, _, rfl, d, c', _, dk17, by omega, .inl ⟨pl, pv, rfl, np2, ep17, pn0, pn1, fun H18 v hv dk18 bx18 => ?_⟩⟩
      obtain ⟨z, rfl, wz⟩ := wp v hv
      have bx1618 : Bx d c' H16 H18 := bx17.trans bx18
      have im1618 := dk16.im bx1618
      refine ⟨(by show 2 ≤ sizeLine; decide), fun y hy => ?_⟩
      have sy := same_new (o := .tup [.int s0, .str z]) hy
      have eyy : upd H18 y (.tup [.int s0, .str z]) y = some (.tup [.int s0, .str z]) := upd_same
      have ep19 := sy _ _ (bx1618 _ _ ep16 np1 np2)
      have ey19 := sy _ _ (bx1618 _ _ ey16 ny1 ny2)
      have eb19 := sy _ _ (bx1618 _ _ eb16 nbl.1 nbl.2)
      have im1619 := im1618.trans (Im.same sy)
      have dk19 := dk18.same sy
      have bx19 : Bx d c' H _ := (bx016.trans bx1618).trans (Bx.same sy)
      generalize upd H18 y (.tup [.int s0, .str z]) = H19 at sy eyy ep19 ey19 eb19 im1619 dk19 bx19
      refine ⟨bl, _, _, rfl, rfl, eb19, (by show 1 < sizeLine; decide), ?_⟩
      have imb := im_lst (o := .lst ([V.ref bt] ++ [.ref y])) eb19
      have epR : upd H19 bl (.lst ([V.ref bt] ++ [.ref y])) pl = some (.lst pv) := by rw [upd_ne nbp]; exact ep19
      have eyR : upd H19 bl (.lst ([V.ref bt] ++ [.ref y])) yl = some (.lst yv) := by rw [upd_ne nby]; exact ey19
      have ebR : upd H19 bl (.lst ([V.ref bt] ++ [.ref y])) bl = some (.lst [V.ref bt, .ref y]) := upd_same
      have rwR := imb.rw (im1619.rw rw16)
      have rwbR : Rw Bg.vs K _ [V.ref bt, .ref y] [⟨0, zb⟩, ⟨s0, z⟩] := Rw.snoc (imb.rw (im1619.rw rwb16)) (imb.sq (SqT.of eyy))
      have dkR : DeckAt (upd H19 bl (.lst ([V.ref bt] ++ [.ref y]))) d c' (kk + 1 + 1 + 1 + 1) := by
        obtain ⟨mm, cc, q1, q2, q3⟩ := dk19
        exact ⟨mm, cc, by rw [upd_ne nbl.1.symm]; exact q1, by rw [upd_ne nbl.2.symm]; exact q2, q3⟩
      have bxR : Bx d c' H _ := Bx.wr (o := .lst ([V.ref bt] ++ [.ref y])) bx19 hbl0
      have okbR : ∀ g ∈ [Bg.mk 0 zb, ⟨s0, z⟩], BgOk n g := fun g hg => by
        simp only [List.mem_cons, List.not_mem_nil, or_false] at hg
        rcases hg with rfl | rfl
        · exact ⟨Int.le_refl 0, by show (0 : Int) < n; omega, wzb⟩
        · exact ⟨s00, s01, wz⟩
      have lbR : [Bg.mk 0 zb, ⟨s0, z⟩].length ≤ 2 := Nat.le_refl 2
      have lb0R : 0 < [Bg.mk 0 zb, ⟨s0, z⟩].length := by show 0 < 2; decide
      generalize hbs : [Bg.mk 0 zb, ⟨s0, z⟩] = bsR at rwbR okbR lbR lb0R
      generalize upd H19 bl (.lst ([V.ref bt] ++ [.ref y])) = HR at epR eyR ebR rwR rwbR dkR bxR imb
      refine ⟨_, rfl, d, c', _, 3, rfl, dkR, (by omega), (by decide), (by decide), fun G1 r4 r40 r41 dg1 bg1 => ?_⟩
      have gp1 := bg1 _ _ epR np1 np2
      have gy1 := bg1 _ _ eyR ny1 ny2
      have gb1 := bg1 _ _ ebR nbl.1 nbl.2
      have gi1 := dkR.im bg1
      have bg01 := bxR.trans bg1
      refine ⟨r4, rfl, (by omega), (by omega), fun D hD => ?_⟩
      have nD := dg1.new hD
      have hD0 : H D = none := by
        cases e : H D with
        | none => rfl
        | some o =>
          have := bg01 _ _ e nD.1 nD.2
          rw [hD] at this
          cases this
      have nDp : pl ≠ D := ne_of_none gp1 hD
      have nDy : yl ≠ D := ne_of_none gy1 hD
      have nDb : bl ≠ D := ne_of_none gb1 hD
      refine lc_range (lo := 0) (n := r4.toNat) (fun i H' => ∃ kk gv gs, Bx d c' H H' ∧ DeckAt H' d c' kk ∧ kk ≤ k + 40 + 2 * (i : Nat) ∧ H' pl = some (.lst pv) ∧ H' yl = some (.lst yv) ∧ H' bl = some (.lst [V.ref bt, .ref y]) ∧ Rw Mv.vs K H' yv ms ∧ Rw Bg.vs K H' [V.ref bt, .ref y] bsR ∧ H' D = some (.lst gv) ∧ Rw Bg.vs K H' gv gs ∧ (∀ g ∈ gs, BgOk n g) ∧ gs.length = i)
        ⟨_, [], [], Bx.wr bg01 hD0, dg1.same (same_new hD), by omega, by rw [upd_ne nDp]; exact gp1, by rw [upd_ne nDy]; exact gy1, by rw [upd_ne nDb]; exact gb1, (im_new hD).rw (gi1.rw rwR), (im_new hD).rw (gi1.rw rwbR), upd_same, Rw.nil, fun g hg => (nomatch hg), rfl⟩ ?_ ?_
      · rintro i G2 hi ⟨kk, gv, gs, bg2, dg2, kk2, gp2, gy2, gb2, gr2, grb2, gd2, grg2, ok2, len2⟩
        refine ⟨rfl, ?_⟩
        refine ⟨_, rfl, _, rfl, d, c', kk, n, rfl, dg2, (by omega), (by omega), (by omega), fun G3 s0 s00 s01 dg3 bg3 => ?_⟩
        have gp3 := bg3 _ _ gp2 np1 np2
        refine ⟨_, rfl, _, rfl, d, c', _, dg3, (by omega), .inl ⟨pl, pv, rfl, np2, gp3, pn0, pn1, fun G4 v hv dg4 bg4 => ?_⟩⟩
        obtain ⟨z, rfl, wz⟩ := wp v hv
        have bg24 : Bx d c' G2 G4 := bg3.trans bg4
        have im24 := dg2.im bg24
        refine ⟨(by show 2 ≤ sizeLine; decide), fun y hy => ?_⟩
        have sy := same_new (o := .tup [.int s0, .str z]) hy
        have eyy : upd G4 y (.tup [.int s0, .str z]) y = some (.tup [.int s0, .str z]) := upd_same
        have gp5 := sy _ _ (bg24 _ _ gp2 np1 np2)
        have gy5 := sy _ _ (bg24 _ _ gy2 ny1 ny2)
        have gb5 := sy _ _ (bg24 _ _ gb2 nbl.1 nbl.2)
        have gd5 := sy _ _ (bg24 _ _ gd2 nD.1 nD.2)
        have im25 := im24.trans (Im.same sy)
        have dg5 := dg4.same sy
        have bg5 : Bx d c' H _ := (bg2.trans bg24).trans (Bx.same sy)
        generalize upd G4 y (.tup [.int s0, .str z]) = G5 at sy eyy gp5 gy5 gb5 gd5 im25 dg5 bg5
        refine ⟨gv, gd5, big (by rw [grg2.1, len2]; omega), kk + 1 + 1, _, gs ++ [⟨s0, z⟩], Bx.wr bg5 hD0, ?_, ?_, by rw [upd_ne nDp]; exact gp5, by rw [upd_ne nDy]; exact gy5, by rw [upd_ne nDb]; exact gb5, (im25.trans (im_lst gd5)).rw gr2, (im25.trans (im_lst gd5)).rw grb2, upd_same, ?_, fun g hg => ?_, by rw [List.length_append, len2]; rfl⟩
        · obtain ⟨mm, cc, q1, q2, q3⟩ := dg5
          exact ⟨mm, cc, by rw [upd_ne nD.1.symm]; exact q1, by rw [upd_ne nD.2.symm]; exact q2, q3⟩
        · have : ((i + 1 : Nat) : Int) = (i : Int) + 1 := by omega
          omega
        · refine Rw.snoc ((im25.trans (im_lst gd5)).rw grg2) ?_
          exact (im_lst gd5).sq (SqT.of eyy)
        · rcases List.mem_append.mp hg with h | h
          · exact ok2 g h
          · have : g = ⟨s0, z⟩ := by simpa using h
            rw [this]
            exact ⟨s00, s01, wz⟩
      rintro G2 ⟨kk, gv, gs, bg2, dg2, kk2, gp2, gy2, gb2, gr2, grb2, gd2, grg2, ok2, len2⟩
      have gl : gs.length ≤ 2 := by omega
      have kk3 : kk ≤ k + 50 := by omega
      clear kk2
      refine ⟨_, rfl, _, _, rfl, rfl, (by show 2 ≤ sizeLine; decide), fun et het => ⟨(by show 1 ≤ sizeLine; decide), fun el hel => ?_⟩⟩
      have s3 := same_new (o := .tup [.int (n - 1), .str "x"]) het
      have e3 : upd G2 et (.tup [.int (n - 1), .str "x"]) et = some (.tup [.int (n - 1), .str "x"]) := upd_same
      generalize upd G2 et (.tup [.int (n - 1), .str "x"]) = G3 at s3 e3 hel
      have s4 := same_new (o := .lst [.ref et]) hel
      have e4 : upd G3 el (.lst [.ref et]) el = some (.lst [.ref et]) := upd_same
      have e34 := s4 _ _ e3
      have s24 := s3.trans s4
      generalize upd G3 el (.lst [.ref et]) = G4 at s4 e4 e34 s24
      refine ⟨D, el, _, _, rfl, rfl, s24 _ _ gd2, e4, (by rw [grg2.1, len2]; exact big' (by simp; omega)), fun ol hol => ?_⟩
      have s5 := same_new (o := .lst (gv ++ [.ref et])) hol
      have e5 : upd G4 ol (.lst (gv ++ [.ref et])) ol = some (.lst (gv ++ [.ref et])) := upd_same
      have e35 := s5 _ _ e34
      have s25 := s24.trans s5
      generalize upd G4 ol (.lst (gv ++ [.ref et])) = G5 at s5 e5 e35 s25
      have rwo5 : Rw Bg.vs K G5 (gv ++ [.ref et]) (gs ++ [⟨n - 1, "x"⟩]) := Rw.snoc ((Im.same s25).rw grg2) (SqT.of e35)
      intro wa hwa
      have s6 := same_new (o := .dK []) hwa
      have e6 : upd G5 wa (.dK []) wa = some (.dK []) := upd_same
      have s26 := s25.trans s6
      have rwo6 := (Im.same s6).rw rwo5
      have e56 := s6 _ _ e5
      have hwa2 : G2 wa = none := s25.free hwa
      have nwa := dg2.new hwa2
      have hwa0 : H wa = none := by
        cases e : H wa with
        | none => rfl
        | some o =>
          have := bg2 _ _ e nwa.1 nwa.2
          rw [hwa2] at this
          cases this
      generalize upd G5 wa (.dK []) = G6 at s6 e6 s26 rwo6 e56
      refine ⟨_, rfl, _, rfl, ?_⟩
      unfold tNil
      refine sorted_set Bg.vs kB (fun _ => rfl) alB (fun x z => by cases z) (SqL.of (s26 _ _ gb2)) ((Im.same s26).rw grb2) (by omega) fun G7 p1 v1 g1 s7 hp1 ep1 rp1 sb1 cv1 ri1 ln1 => ?_
      refine ⟨_, rfl, sorted_set Mv.vs kM (fun _ => rfl) alM (fun x z => by cases z) (SqL.of ((s26.trans s7) _ _ gy2)) ((Im.same (s26.trans s7)).rw gr2) (by omega) fun G8 p2 v2 g2 s8 hp2 ep2 rp2 sb2 cv2 ri2 ln2 => ?_⟩
      refine ⟨_, rfl, sorted_set Bg.vs kB (fun _ => rfl) alB (fun x z => by cases z) (SqL.of ((s7.trans s8) _ _ e56)) ((Im.same (s7.trans s8)).rw rwo6) (by rw [List.length_append]; simp; omega) fun G9 p3 v3 g3 s9 hp3 ep3 rp3 sb3 cv3 ri3 ln3 => ?_⟩
      have s69 := (s7.trans s8).trans s9
      have ew9 := s69 _ _ e6
      have n1w : p1 ≠ wa := (ne_of_none e6 hp1).symm
      have n2w : p2 ≠ wa := (ne_of_none (s7 _ _ e6) hp2).symm
      have n3w : p3 ≠ wa := (ne_of_none ((s7.trans s8) _ _ e6) hp3).symm
      refine ⟨ew9, wD n p1 p2 p3, rfl, (by show 4 ≤ 15; decide), ?_⟩
      have imw := im_dk (o := .dK (wD n p1 p2 p3)) ew9
      have s29 := s26.trans s69
      have bx9 : Bx d c' H G9 := bg2.trans (Bx.same s29)
      have dkF : DeckAt (upd G9 wa (.dK (wD n p1 p2 p3))) d c' kk := by
        obtain ⟨mm, cc, q1, q2, q3⟩ := dg2.same s29
        exact ⟨mm, cc, by rw [upd_ne nwa.1.symm]; exact q1, by rw [upd_ne nwa.2.symm]; exact q2, q3⟩
      have n1d := (dg2.same s26).new hp1
      have n2d := (dg2.same (s26.trans s7)).new hp2
      have n3d := (dg2.same ((s26.trans s7).trans s8)).new hp3
      refine q _ wa n g1 g2 g3 kk (Bx.wr bx9 hwa0) hwa0 dkF (by omega) (fun HH bb => ⟨p1, p2, p3, v1, v2, v3, bb _ _ upd_same nwa.1 nwa.2, bb _ _ (by rw [upd_ne n1w]; exact s9 _ _ (s8 _ _ ep1)) n1d.1 n1d.2, bb _ _ (by rw [upd_ne n2w]; exact s9 _ _ ep2) n2d.1 n2d.2, bb _ _ (by rw [upd_ne n3w]; exact ep3) n3d.1 n3d.2, (imw.trans (dkF.im bb)).rw ((Im.same (s8.trans s9)).rw rp1), (imw.trans (dkF.im bb)).rw ((Im.same s9).rw rp2), (imw.trans (dkF.im bb)).rw rp3⟩) ⟨n1, n4, fun g hg => okbR g (sb1 g hg), fun g hg => ok12 g (sb2 g hg), fun g hg => ?_, ri1, ri2, ri3, ⟨(by omega), ?_⟩, (by omega), ?_⟩
      · rcases List.mem_append.mp (sb3 g hg) with h | h
        · exact ok2 g h
        · have : g = ⟨n - 1, "x"⟩ := by simpa using h
          rw [this]
          exact ⟨by show 0 ≤ n - 1; omega, by show n - 1 < n; omega, wx1⟩
      · obtain ⟨g0, hg0⟩ := List.exists_mem_of_length_pos lb0R
        have := cv1 g0 hg0
        obtain ⟨g', h1, _⟩ := List.mem_map.mp this
        exact List.length_pos_of_mem h1
      · rw [List.length_append] at ln3
        simp at ln3
        omega
    · have epR := ep16
      have eyR := ey16
      have ebR := eb16
      have rwR := rw16
      have rwbR := rwb16
      have dkR := dk16
      have bxR := bx016
      have okbR : ∀ g ∈ [Bg.mk 0 zb], BgOk n g := fun g hg => by
        simp only [List.mem_cons, List.not_mem_nil, or_false] at hg
        rw [hg]
        exact ⟨Int.le_refl 0, by show (0 : Int) < n; omega, wzb⟩
      have lbR : [Bg.mk 0 zb].length ≤ 2 := by show 1 ≤ 2; decide
      have lb0R : 0 < [Bg.mk 0 zb].length := by show 0 < 1; decide
      generalize hbs : [Bg.mk 0 zb] = bsR at rwbR okbR lbR lb0R
      refine ⟨_, rfl, d, c', _, 3, rfl, dkR, (by omega), (by decide), (by decide), fun G1 r4 r40 r41 dg1 bg1 => ?_⟩
      have gp1 := bg1 _ _ epR np1 np2
      have gy1 := bg1 _ _ eyR ny1 ny2
      have gb1 := bg1 _ _ ebR nbl.1 nbl.2
      have gi1 := dkR.im bg1
      have bg01 := bxR.trans bg1
      refine ⟨r4, rfl, (by omega), (by omega), fun D hD => ?_⟩
      have nD := dg1.new hD
      have hD0 : H D = none := by
        cases e : H D with
        | none => rfl
        | some o =>
          have := bg01 _ _ e nD.1 nD.2
          rw [hD] at this
          cases this
      have nDp : pl ≠ D := ne_of_none gp1 hD
      have nDy : yl ≠ D := ne_of_none gy1 hD
      have nDb : bl ≠ D := ne_of_none gb1 hD
      refine lc_range (lo := 0) (n := r4.toNat) (fun i H' => ∃ kk gv gs, Bx d c' H H' ∧ DeckAt H' d c' kk ∧ kk ≤ k + 40 + 2 * (i : Nat) ∧ H' pl = some (.lst pv) ∧ H' yl = some (.lst yv) ∧ H' bl = some (.lst [V.ref bt]) ∧ Rw Mv.vs K H' yv ms ∧ Rw Bg.vs K H' [V.ref bt] bsR ∧ H' D = some (.lst gv) ∧ Rw Bg.vs K H' gv gs ∧ (∀ g ∈ gs, BgOk n g) ∧ gs.length = i)
        ⟨_, [], [], Bx.wr bg01 hD0, dg1.same (same_new hD), by omega, by rw [upd_ne nDp]; exact gp1, by rw [upd_ne nDy]; exact gy1, by rw [upd_ne nDb]; exact gb1, (im_new hD).rw (gi1.rw rwR), (im_new hD).rw (gi1.rw rwbR), upd_same, Rw.nil, fun g hg => (nomatch hg), rfl⟩ ?_ ?_
      · rintro i G2 hi ⟨kk, gv, gs, bg2, dg2, kk2, gp2, gy2, gb2, gr2, grb2, gd2, grg2, ok2, len2⟩
        refine ⟨rfl, ?_⟩
        refine ⟨_, rfl, _, rfl, d, c', kk, n, rfl, dg2, (by omega), (by omega), (by omega), fun G3 s0 s00 s01 dg3 bg3 => ?_⟩
        have gp3 := bg3 _ _ gp2 np1 np2
        refine ⟨_, rfl, _, rfl, d, c', _, dg3, (by omega), .inl ⟨pl, pv, rfl, np2, gp3, pn0, pn1, fun G4 v hv dg4 bg4 => ?_⟩⟩
        obtain ⟨z, rfl, wz⟩ := wp v hv
        have bg24 : Bx d c' G2 G4 := bg3.trans bg4
        have im24 := dg2.im bg24
        refine ⟨(by show 2 ≤ sizeLine; decide), fun y hy => ?_⟩
        have sy := same_new (o := .tup [.int s0, .str z]) hy
        have eyy : upd G4 y (.tup [.int s0, .str z]) y = some (.tup [.int s0, .str z]) := upd_same
        have gp5 := sy _ _ (bg24 _ _ gp2 np1 np2)
        have gy5 := sy _ _ (bg24 _ _ gy2 ny1 ny2)
        have gb5 := sy _ _ (bg24 _ _ gb2 nbl.1 nbl.2)
        have gd5 := sy _ _ (bg24 _ _ gd2 nD.1 nD.2)
        have im25 := im24.trans (Im.same sy)
        have dg5 := dg4.same sy
        have bg5 : Bx d c' H _ := (bg2.trans bg24).trans (Bx.same sy)
        generalize upd G4 y (.tup [.int s0, .str z]) = G5 at sy eyy gp5 gy5 gb5 gd5 im25 dg5 bg5
        refine ⟨gv, gd5, big (by rw [grg2.1, len2]; omega), kk + 1 + 1, _, gs ++ [⟨s0, z⟩], Bx.wr bg5 hD0, ?_, ?_, by rw [upd_ne nDp]; exact gp5, by rw [upd_ne nDy]; exact gy5, by rw [upd_ne nDb]; exact gb5, (im25.trans (im_lst gd5)).rw gr2, (im25.trans (im_lst gd5)).rw grb2, upd_same, ?_, fun g hg => ?_, by rw [List.length_append, len2]; rfl⟩
        · obtain ⟨mm, cc, q1, q2, q3⟩ := dg5
          exact ⟨mm, cc, by rw [upd_ne nD.1.symm]; exact q1, by rw [upd_ne nD.2.symm]; exact q2, q3⟩
        · have : ((i + 1 : Nat) : Int) = (i : Int) + 1 := by omega
          omega
        · refine Rw.snoc ((im25.trans (im_lst gd5)).rw grg2) ?_
          exact (im_lst gd5).sq (SqT.of eyy)
        · rcases List.mem_append.mp hg with h | h
          · exact ok2 g h
          · have : g = ⟨s0, z⟩ := by simpa using h
            rw [this]
            exact ⟨s00, s01, wz⟩
      rintro G2 ⟨kk, gv, gs, bg2, dg2, kk2, gp2, gy2, gb2, gr2, grb2, gd2, grg2, ok2, len2⟩
      have gl : gs.length ≤ 2 := by omega
      have kk3 : kk ≤ k + 50 := by omega
      clear kk2
      refine ⟨_, rfl, _, _, rfl, rfl, (by show 2 ≤ sizeLine; decide), fun et het => ⟨(by show 1 ≤ sizeLine; decide), fun el hel => ?_⟩⟩
      have s3 := same_new (o := .tup [.int (n - 1), .str "x"]) het
      have e3 : upd G2 et (.tup [.int (n - 1), .str "x"]) et = some (.tup [.int (n - 1), .str "x"]) := upd_same
      generalize upd G2 et (.tup [.int (n - 1), .str "x"]) = G3 at s3 e3 hel
      have s4 := same_new (o := .lst [.ref et]) hel
      have e4 : upd G3 el (.lst [.ref et]) el = some (.lst [.ref et]) := upd_same
      have e34 := s4 _ _ e3
      have s24 := s3.trans s4
      generalize upd G3 el (.lst [.ref et]) = G4 at s4 e4 e34 s24
      refine ⟨D, el, _, _, rfl, rfl, s24 _ _ gd2, e4, (by rw [grg2.1, len2]; exact big' (by simp; omega)), fun ol hol => ?_⟩
      have s5 := same_new (o := .lst (gv ++ [.ref et])) hol
      have e5 : upd G4 ol (.lst (gv ++ [.ref et])) ol = some (.lst (gv ++ [.ref et])) := upd_same
      have e35 := s5 _ _ e34
      have s25 := s24.trans s5
      generalize upd G4 ol (.lst (gv ++ [.ref et])) = G5 at s5 e5 e35 s25
      have rwo5 : Rw Bg.vs K G5 (gv ++ [.ref et]) (gs ++ [⟨n - 1, "x"⟩]) := Rw.snoc ((Im.same s25).rw grg2) (SqT.of e35)
      intro wa hwa
      have s6 := same_new (o := .dK []) hwa
      have e6 : upd G5 wa (.dK []) wa = some (.dK []) := upd_same
      have s26 := s25.trans s6
      have rwo6 := (Im.same s6).rw rwo5
      have e56 := s6 _ _ e5
      have hwa2 : G2 wa = none := s25.free hwa
      have nwa := dg2.new hwa2
      have hwa0 : H wa = none := by
        cases e : H wa with
        | none => rfl
        | some o =>
          have := bg2 _ _ e nwa.1 nwa.2
          rw [hwa2] at this
          cases this
      generalize upd G5 wa (.dK []) = G6 at s6 e6 s26 rwo6 e56
      refine ⟨_, rfl, _, rfl, ?_⟩
      unfold tNil
      refine sorted_set Bg.vs kB (fun _ => rfl) alB (fun x z => by cases z) (SqL.of (s26 _ _ gb2)) ((Im.same s26).rw grb2) (by omega) fun G7 p1 v1 g1 s7 hp1 ep1 rp1 sb1 cv1 ri1 ln1 => ?_
      refine ⟨_, rfl, sorted_set Mv.vs kM (fun _ => rfl) alM (fun x z => by cases z) (SqL.of ((s26.trans s7) _ _ gy2)) ((Im.same (s26.trans s7)).rw gr2) (by omega) fun G8 p2 v2 g2 s8 hp2 ep2 rp2 sb2 cv2 ri2 ln2 => ?_⟩
      refine ⟨_, rfl, sorted_set Bg.vs kB (fun _ => rfl) alB (fun x z => by cases z) (SqL.of ((s7.trans s8) _ _ e56)) ((Im.same (s7.trans s8)).rw rwo6) (by rw [List.length_append]; simp; omega) fun G9 p3 v3 g3 s9 hp3 ep3 rp3 sb3 cv3 ri3 ln3 => ?_⟩
      have s69 := (s7.trans s8).trans s9
      have ew9 := s69 _ _ e6
      have n1w : p1 ≠ wa := (ne_of_none e6 hp1).symm
      have n2w : p2 ≠ wa := (ne_of_none (s7 _ _ e6) hp2).symm
      have n3w : p3 ≠ wa := (ne_of_none ((s7.trans s8) _ _ e6) hp3).symm
      refine ⟨ew9, wD n p1 p2 p3, rfl, (by show 4 ≤ 15; decide), ?_⟩
      have imw := im_dk (o := .dK (wD n p1 p2 p3)) ew9
      have s29 := s26.trans s69
      have bx9 : Bx d c' H G9 := bg2.trans (Bx.same s29)
      have dkF : DeckAt (upd G9 wa (.dK (wD n p1 p2 p3))) d c' kk := by
        obtain ⟨mm, cc, q1, q2, q3⟩ := dg2.same s29
        exact ⟨mm, cc, by rw [upd_ne nwa.1.symm]; exact q1, by rw [upd_ne nwa.2.symm]; exact q2, q3⟩
      have n1d := (dg2.same s26).new hp1
      have n2d := (dg2.same (s26.trans s7)).new hp2
      have n3d := (dg2.same ((s26.trans s7).trans s8)).new hp3
      refine q _ wa n g1 g2 g3 kk (Bx.wr bx9 hwa0) hwa0 dkF (by omega) (fun HH bb => ⟨p1, p2, p3, v1, v2, v3, bb _ _ upd_same nwa.1 nwa.2, bb _ _ (by rw [upd_ne n1w]; exact s9 _ _ (s8 _ _ ep1)) n1d.1 n1d.2, bb _ _ (by rw [upd_ne n2w]; exact s9 _ _ ep2) n2d.1 n2d.2, bb _ _ (by rw [upd_ne n3w]; exact ep3) n3d.1 n3d.2, (imw.trans (dkF.im bb)).rw ((Im.same (s8.trans s9)).rw rp1), (imw.trans (dkF.im bb)).rw ((Im.same s9).rw rp2), (imw.trans (dkF.im bb)).rw rp3⟩) ⟨n1, n4, fun g hg => okbR g (sb1 g hg), fun g hg => ok12 g (sb2 g hg), fun g hg => ?_, ri1, ri2, ri3, ⟨(by omega), ?_⟩, (by omega), ?_⟩
      · rcases List.mem_append.mp (sb3 g hg) with h | h
        · exact ok2 g h
        · have : g = ⟨n - 1, "x"⟩ := by simpa using h
          rw [this]
          exact ⟨by show 0 ≤ n - 1; omega, by show n - 1 < n; omega, wx1⟩
      · obtain ⟨g0, hg0⟩ := List.exists_mem_of_length_pos lb0R
        have := cv1 g0 hg0
        obtain ⟨g', h1, _⟩ := List.mem_map.mp this
        exact List.length_pos_of_mem h1
      · rw [List.length_append] at ln3
        simp at ln3
        omega
end
end K86
end
section
set_option maxHeartbeats 4000000
namespace K86
open PySem PySem.Spec PyProof.Rows L2
open C8 (Cal Met Mak pe_c pe_mk pe_mt pe_mt0)
section
variable {P : Program} {w : World} {K : PySem.W.Frag} {mg : Str → Option Value} {base : Heap}
theorem wget_size {H : Hp} {w : Addr} {n : Int} {i y o : Addr} (h : H w = some (.dK (wD n i y o))) : DGet H w (.str "size") (some (.int n)) := DGet.k (k := Sum.inr "size") h
theorem wget_in {H : Hp} {w : Addr} {n : Int} {i y o : Addr} (h : H w = some (.dK (wD n i y o))) : DGet H w (.str "in") (some (.ref i)) := DGet.k (k := Sum.inr "in") h
theorem wget_ways {H : Hp} {w : Addr} {n : Int} {i y o : Addr} (h : H w = some (.dK (wD n i y o))) : DGet H w (.str "ways") (some (.ref y)) := DGet.k (k := Sum.inr "ways") h
theorem wget_out {H : Hp} {w : Addr} {n : Int} {i y o : Addr} (h : H w = some (.dK (wD n i y o))) : DGet H w (.str "out") (some (.ref o)) := DGet.k (k := Sum.inr "out") h
def N_law_code : List Str := ["_law_w"]
theorem sc_law_code : FnScope N_law_code ["_law_w"] (defScope s_law_code) := ⟨rfl, rfl, rfl, by decide +kernel, rfl, by decide +kernel, by decide +kernel⟩
def sp_law_code (K : PySem.W.Frag) : Sp := fun vs H Q _ => ∃ (w : Addr) (n : Int) (bs : List Bg) (ms : List Mv) (es : List Bg), vs = [.ref w] ∧ WAt K H w n bs ms es ∧ WOk n bs ms es ∧ ∀ H' t us, Same H H' → TrAt K H' t ⟨n, bs, ms, es, us⟩ → Usf bs ms es us → Q (.ref t) H'
theorem C_law_code (c : Cn K mg) : Cal P w K mg base 7 "_law_code" (sp_law_code K) [] := by
  refine mkCal (F_law_code c) (g_law_code c) sc_law_code (fun _ _ _ _ _ _ us hl => match us, hl with | [_], _ => rfl) (fun vs H Q E h => ?_) (fun cdv A outer s H vs Q E hr h => ?_)
  · obtain ⟨w, n, bs, ms, es, rfl, _⟩ := h
    rfl
  · obtain ⟨wa, n, bs, ms, es, rfl, ⟨i, y, o, iv, yv, ov, e1, e2, e3, e4, r1, r2, r3⟩, ok, q⟩ := h
    have hu := hu_of hr
    refine ⟨_, (pss_one (ps_ret (pe_mk (K_Translator c) hr (by decide) rfl (pa_cons (pe_dget hu (pv 0) pe_str (fun _ _ => rfl)) (pa_cons (pe_callTy (tupOf K) (by rfl) (m_tuple c) (by decide +kernel) (pa_cons (pe_dget hu (pv 0) pe_str (fun _ _ => rfl)) pa_nil)) (pa_cons (pe_callTy (tupOf K) (by rfl) (m_tuple c) (by decide +kernel) (pa_cons (pe_dget hu (pv 0) pe_str (fun _ _ => rfl)) pa_nil)) (pa_cons (pe_callTy (tupOf K) (by rfl) (m_tuple c) (by decide +kernel) (pa_cons (pe_dget hu (pv 0) pe_str (fun _ _ => rfl)) pa_nil)) pa_nil))))))), ?_⟩
    refine ⟨_, rfl, wa, _, rfl, wget_size e1, _, rfl, wa, _, rfl, wget_in e1, i, _, rfl, .inl ⟨SqL.of e2, fun a ha => ?_⟩⟩
    have s1 := same_new (o := .tup iv) ha
    have f1 : upd H a (.tup iv) a = some (.tup iv) := upd_same
    generalize upd H a (.tup iv) = H1 at s1 f1
    refine ⟨_, rfl, wa, _, rfl, wget_ways (s1 _ _ e1), y, _, rfl, .inl ⟨SqL.of (s1 _ _ e3), fun b hb => ?_⟩⟩
    have s2 := same_new (o := .tup yv) hb
    have f2 : upd H1 b (.tup yv) b = some (.tup yv) := upd_same
    have s02 := s1.trans s2
    generalize upd H1 b (.tup yv) = H2 at s2 f2 s02
    refine ⟨_, rfl, wa, _, rfl, wget_out (s02 _ _ e1), o, _, rfl, .inl ⟨SqL.of (s02 _ _ e4), fun c2 hc => ?_⟩⟩
    have s3 := same_new (o := .tup ov) hc
    have f3 : upd H2 c2 (.tup ov) c2 = some (.tup ov) := upd_same
    have s03 := s02.trans s3
    have f13 := (s2.trans s3) _ _ f1
    have f23 := s3 _ _ f2
    generalize upd H2 c2 (.tup ov) = H3 at s3 f3 s03 f13 f23
    intro x dx nx ndx nex
    have s4 : Same H3 (upd (upd H3 dx (.own x)) x (.ins (aTr K) dx [])) := fun b o e => by
      rw [upd_ne (ne_of_none e nx), upd_ne (ne_of_none e ndx)]
      exact e
    have s04 := s03.trans s4
    have m04 := Im.same s04
    refine ⟨x, dx, a, b, c2, n, bs, ms, es, iv, yv, ov, rfl, upd_same, SqT.of (s4 _ _ f13), SqT.of (s4 _ _ f23), SqT.of (s4 _ _ f3), m04.rw r1, m04.rw r2, m04.rw r3, ok.b, ok.m, ok.e, ok.rb, ok.rm, ok.re, by have := ok.lb; omega, by have := ok.lm; omega, by have := ok.le; omega, by have := ok.n1; omega, by have := ok.n4; omega, fun H5 us fr ht usf => ⟨rfl, ?_⟩⟩
    exact q H5 x us (fun a o e => fr a o (s04 a o e) (ne_of_none (s03 a o e) nx)) ht usf
/-- the reading of sorted(set(xs)), xs ints -/
theorem sorted_setQ {P : Program} {w : World} {H : Hp} {l : Addr} {fl : List Int} {Q : VK} (hl : SqL K H l (nums fl)) (h : fl.length < 4000)
    (q : ∀ H' p ns, Same H H' → H p = none → H' p = some (.lst (nums ns)) → Asc ns → (∀ i, i ∈ ns ↔ i ∈ fl) → Q (.ref p) H') : SetX.rSetQ K P w [.ref l] H (fun v H1 => SetX.rSortedQ P w [v] H1 Q) := by
  refine ⟨l, fl.map Sum.inl, rfl, by rw [List.map_map]; exact hl, by rw [List.length_map]; exact h, fun p hp => ?_⟩
  have s1 := same_new (o := SetX.SetQO P w p ((fl.map (Sum.inl : Int → Key)).foldl SetX.put [])) hp
  have isI : ∀ k ∈ (fl.map (Sum.inl : Int → Key)).foldl SetX.put [], ∃ i ∈ fl, k = .inl i := fun k hk => by
    rcases (fold_put_mem _ _ _).mp hk with z | z
    · cases z
    · obtain ⟨i, h1, h2⟩ := List.mem_map.mp z
      exact ⟨i, h1, h2.symm⟩
  refine ⟨p, _, rfl, upd_same, ?_, fun p2 M hp2 pm nd pw => ?_⟩
  · intro d hd d' hd'
    obtain ⟨k, hk, rfl⟩ := List.mem_map.mp hd
    obtain ⟨k', hk', rfl⟩ := List.mem_map.mp hd'
    obtain ⟨i, _, rfl⟩ := isI k hk
    obtain ⟨i', _, rfl⟩ := isI k' hk'
    rfl
  · obtain ⟨ns, e1, asc, mm⟩ := asc_of pm nd pw fun k hk => let ⟨i, _, e⟩ := isI k hk; ⟨i, e⟩
    rw [e1]
    refine q _ p2 ns (s1.trans (same_new hp2)) (s1.free hp2) upd_same asc fun i => ?_
    rw [mm]
    constructor
    · intro h
      obtain ⟨j, h1, h2⟩ := isI _ h
      cases h2
      exact h1
    · intro h
      exact (fold_put_mem _ _ _).mpr (.inr (List.mem_map_of_mem h))
/-- the links whose target is not there yet -/
def fresh (ps : List (Int × Int)) (fl : List Int) : Nat := (ps.filter fun p => !decide (p.2 ∈ fl)).length
theorem fresh_drop {fl : List Int} {x : Int} : ∀ ps : List (Int × Int), (ps.filter fun p => decide (p.1 = x) && !decide (p.2 ∈ fl)).length + fresh ps (fl ++ ((ps.filter fun p => decide (p.1 = x) && !decide (p.2 ∈ fl)).map (·.2))) ≤ fresh ps fl := by
  intro ps
  have gen : ∀ (qs : List (Int × Int)) (gl : List Int), (∀ p ∈ qs, (decide (p.1 = x) && !decide (p.2 ∈ fl)) = true → p.2 ∈ gl) → (∀ y ∈ fl, y ∈ gl) → (qs.filter fun p => decide (p.1 = x) && !decide (p.2 ∈ fl)).length + fresh qs gl ≤ fresh qs fl := by
    intro qs gl
    induction qs with
    | nil => intro _ _; simp [fresh]
    | cons p qs ih =>
      intro h1 h2
      have ih' := ih (fun r hr => h1 r (List.mem_cons_of_mem _ hr)) h2
      have hp := h1 p List.mem_cons_self
      unfold fresh at ih' ⊢
      by_cases a : p.2 ∈ fl
      · have b := h2 _ a
        rw [List.filter_cons_of_neg (by simp [a]), List.filter_cons_of_neg (by simp [b]), List.filter_cons_of_neg (by simp [a])]
        exact ih'
      · by_cases e : p.1 = x
        · have b := hp (by simp [a, e])
          rw [List.filter_cons_of_pos (by simp [a, e]), List.filter_cons_of_neg (by simp [b]), List.filter_cons_of_pos (by simp [a])]
          simp only [List.length_cons]
          omega
        · rw [List.filter_cons_of_neg (by simp [e]), List.filter_cons_of_pos (p := fun p : Int × Int => !decide (p.2 ∈ fl)) (by simp [a])]
          by_cases b : p.2 ∈ gl
          · rw [List.filter_cons_of_neg (by simp [b])]
            simp only [List.length_cons]
            omega
          · rw [List.filter_cons_of_pos (by simp [b])]
            simp only [List.length_cons]
            omega
  exact gen ps _ (fun p hp h => List.mem_append_right _ (List.mem_map.mpr ⟨p, List.mem_filter.mpr ⟨hp, h⟩, rfl⟩)) fun y hy => List.mem_append_left _ hy
def N_law_spread : List Str := ["_law_begun", "_law_pairs", "_law_found", "_law_at", "_law_near", "_law_far"]
theorem sc_law_spread : FnScope N_law_spread ["_law_begun", "_law_pairs"] (defScope s_law_spread) := ⟨rfl, rfl, rfl, by decide +kernel, rfl, by decide +kernel, by decide +kernel⟩
def sp_law_spread (K : PySem.W.Frag) : Sp := fun vs H Q _ => ∃ (p l : Addr) (ss : List Int) (lv : List V) (ps : List (Int × Int)), vs = [.ref p, .ref l] ∧ SqL K H p (nums ss) ∧ H l = some (.lst lv) ∧ Paired (PairAt H) lv ps ∧ ss.length ≤ 9 ∧ ps.length ≤ 9 ∧
  ∀ H' a ns, Same H H' → H' a = some (.lst (nums ns)) → Asc ns → (∀ x, x ∈ ns ↔ Reach ps ss x) → Q (.ref a) H'
theorem C_law_spread (c : Cn K mg) : Cal P w K mg base 1 "_law_spread" (sp_law_spread K) [] := by
  refine mkCal (F_law_spread c) (g_law_spread c) sc_law_spread (fun _ _ _ _ _ _ us hl => match us, hl with | [_, _], _ => rfl) (fun vs H Q E h => ?_) (fun cdv A outer s H vs Q E hr h => ?_)
  · obtain ⟨p, l, ss, lv, ps, rfl, _⟩ := h
    rfl
  · obtain ⟨p, l, ss, lv, ps, rfl, hp, hl, pr, hs9, hp9, q⟩ := h
    have rowAt : ∀ {H' : Hp} {i : Nat} {x : V}, Same H H' → lv[i]? = some x → ∃ t pq, x = .ref t ∧ ps[i]? = some pq ∧ SqT K H' t [.int pq.1, .int pq.2] := fun {H' i x} s hx => by
      obtain ⟨em, at_⟩ := paired_map pr
      obtain ⟨t, e1, e2⟩ := at_ x (List.mem_of_getElem? hx)
      exact ⟨t, kOf H x, e1, by rw [← em, List.getElem?_map, hx]; rfl, SqT.of (s _ _ e2)⟩
    have lvl : lv.length = ps.length := by
      obtain ⟨em, _⟩ := paired_map pr
      rw [← em, List.length_map]
    refine ⟨_, (pss_cons (ps_asg (pe_tup (pa_cons (pe_callB (SetX.cr_sortedQ rfl hr.units) (by rfl) (m_sorted c) (by decide +kernel) (pa_cons (pe_callTy (SetX.cr_setQ rfl) (by rfl) (m_set c) (by decide +kernel) (pa_cons (pv 0) pa_nil)) pa_nil)) (pa_cons pe_int pa_nil))) (pgT K (n := 2) rfl (pgs_cons (pg_name (i := 2) sc_law_spread.nd rfl (.inr rfl)) (pgs_cons (pg_name (i := 3) sc_law_spread.nd rfl (.inr rfl)) pgs_nil))))
      (pss_cons (ps_while PassesOwn.never (pt_cmpR op_lt (pv 3) (pe_callB (lenS K) (by rfl) (m_len c) (by decide +kernel) (pa_cons (pv 2) pa_nil)) (nomark _))
        (pss_cons (ps_expr (pe_bm PySem.F.plainAttrs_list PySem.F.slot_list_extend PySem.F.type_list_extend mt_extend (pv 2) (pa_cons (pe_lc (own := [("_law_near", 4), ("_law_far", 5)]) rfl sc_law_spread.nd (piL K (pv 1)) (blkOk_by (own := [("_law_near", 4), ("_law_far", 5)]) (N := N_law_spread) (sc := defScope s_law_spread) (by decide +kernel)) (fun _ _ _ _ _ => (pgT K (n := 2) rfl (pgs_cons (pg_name (i := 4) sc_law_spread.nd rfl (.inl rfl)) (pgs_cons (pg_name (i := 5) sc_law_spread.nd rfl (.inl rfl)) pgs_nil)))) (fun _ _ _ _ _ => pts_one (PW.pt (pw_and (pt_cmpR op_eq (pv 4) (pe_ix (ixL K) (pv 2) (pv 3) (fun _ _ => rfl)) (nomark _)) (pw_and1 (pt_cmpR (notInI K) (pv 5) (pv 2) (by rfl)))))) (fun _ _ _ _ _ => (pv 5))) pa_nil)))
        (pss_one (ps_set (i := 3) sc_law_spread.nd rfl (.inr rfl) (pe_op op_add (pv 3) pe_int)))))
      (pss_one (ps_ret (pe_callB (SetX.cr_sortedQ rfl hr.units) (by rfl) (m_sorted c) (by decide +kernel) (pa_cons (pe_callTy (SetX.cr_setQ rfl) (by rfl) (m_set c) (by decide +kernel) (pa_cons (pv 2) pa_nil)) pa_nil)))))), ?_⟩
    refine ⟨_, rfl, ?_⟩
    unfold tNil
    refine sorted_setQ hp (by omega) fun H1 f ns s1 hf ef asc mm => ⟨(by show 2 ≤ sizeLine; decide), fun y hy => ?_⟩
    have sy := same_new (o := .tup [.ref f, .int 0]) hy
    have ey : upd H1 y (.tup [.ref f, .int 0]) y = some (.tup [.ref f, .int 0]) := upd_same
    have ef2 := sy _ _ ef
    have s02 := s1.trans sy
    generalize upd H1 y (.tup [.ref f, .int 0]) = H2 at sy ey ef2 s02
    refine ⟨y, _, rfl, SqT.of ey, rfl, _, _, rfl, _, _, rfl, rfl, ?_⟩
    have nsl : ns.length ≤ 9 := by
      have := asc.nd.length_le_of_subset (l₂ := ss) fun i hi => (mm i).mp hi
      omega
    let W : Nat → L2.St → Hp → Prop := fun m σ H' => ∃ (fl : List Int) (at_ : Nat) (x4 x5 : Option V), σ = [some (.ref p), some (.ref l), some (.ref f), some (.int (at_ : Nat)), x4, x5] ∧ Same H H' ∧ H' f = some (.lst (nums fl)) ∧ at_ ≤ fl.length ∧ (∀ x ∈ fl, Reach ps ss x) ∧ (∀ x ∈ ss, x ∈ fl) ∧ (∀ x y, x ∈ fl.take at_ → (x, y) ∈ ps → y ∈ fl) ∧ fl.length + fresh ps fl ≤ 20 ∧ m = fresh ps fl + (fl.length - at_)
    refine ⟨W, ⟨_, ns, 0, _, _, rfl, s02, ef2, Nat.zero_le _, fun x hx => .base ((mm x).mp hx), fun x hx => (mm x).mpr hx, fun x y hx => (by simp at hx), ?_, rfl⟩, ?_⟩
    · have := List.length_filter_le (fun p : Int × Int => !decide (p.2 ∈ ns)) ps
      unfold fresh
      omega
    rintro m σ H3 ⟨fl, at_, x4, x5, rfl, s3, f3, al, wr, sw, cl, bd, rfl⟩
    refine ⟨_, rfl, _, rfl, f, _, rfl, .inl (SqL.of f3), _, _, rfl, rfl, _, rfl, ?_⟩
    refine iteD (fun hlt => ?_) (fun hge => ?_)
    · rw [nums_len] at hlt
      have hlt' : at_ < fl.length := by omega
      obtain ⟨x, hx⟩ : ∃ x, fl[at_]? = some x := ⟨_, List.getElem?_eq_getElem hlt'⟩
      have hxn : (nums fl)[at_]? = some (.int x) := by unfold nums; rw [List.getElem?_map, hx]; rfl
      have xr := wr x (List.mem_of_getElem? hx)
      have et : fl.take (at_ + 1) = fl.take at_ ++ [x] := by rw [List.take_add_one, hx]; rfl
      refine ⟨fun σ' H' => ∃ m', m' < fresh ps fl + (fl.length - at_) ∧ W m' σ' H', fun σ' H' h => h, ?_⟩
      refine ⟨_, rfl, .inl ⟨rfl, _, SqL.of f3⟩, ?_⟩
      refine ⟨_, rfl, l, rfl, ⟨_, SqL.of (s3 _ _ hl)⟩, fun D hD => lc_list (K := K) (a := l) (xs := lv) (fun i H' => Same H3 H' ∧ H3 D = none ∧ H' D = some (.lst (nums (((ps.take i).filter fun p => decide (p.1 = x) && !decide (p.2 ∈ fl)).map (·.2))))) ⟨same_new hD, hD, upd_same⟩ (fun i H' _ h => SqL.of ((s3.trans h.1) _ _ hl)) ?_ ?_⟩
      · rintro i v H4 hi ⟨s4, d1, d2⟩
        obtain ⟨t, pq, rfl, hpq, hrow⟩ := rowAt (s3.trans s4) hi
        have ep : ps.take (i + 1) = ps.take i ++ [pq] := by rw [List.take_add_one, hpq]; rfl
        have f4 := s4 _ _ f3
        refine ⟨t, _, rfl, hrow, rfl, _, _, rfl, _, _, rfl, rfl, rfl, ?_⟩
        refine ⟨_, rfl, _, rfl, _, rfl, f, _, _, _, rfl, rfl, SqL.of f4, atI_nat hxn, rfl, _, rfl, ?_⟩
        have skip : (decide (pq.1 = x) && !decide (pq.2 ∈ fl)) = false → H4 D = some (.lst (nums (((ps.take (i + 1)).filter fun p => decide (p.1 = x) && !decide (p.2 ∈ fl)).map (·.2)))) := fun h => by
          have e0 : ([pq].filter fun p : Int × Int => decide (p.1 = x) && !decide (p.2 ∈ fl)) = [] := by
            rw [List.filter_cons, h]
            rfl
          rw [ep, List.filter_append, e0, List.append_nil]
          exact d2
        refine iteD (fun hx1 => ?_) (fun hx1 => ?_)
        · have hx2 : pq.1 = x := by injection hx1
          refine ⟨_, rfl, _, rfl, pq.2, fl, f, rfl, rfl, .inl (SqL.of f4), _, rfl, ?_⟩
          refine iteND (fun hn => ?_) (fun hn => ?_)
          · refine ⟨_, rfl, _, d2, ?_, Same.wr s4 d1, d1, ?_⟩
            · rw [nums_len, List.length_map]
              have := List.length_filter_le (fun p : Int × Int => decide (p.1 = x) && !decide (p.2 ∈ fl)) (ps.take i)
              rw [List.length_take] at this
              exact big (by omega)
            · have e0 : ([pq].filter fun p : Int × Int => decide (p.1 = x) && !decide (p.2 ∈ fl)) = [pq] := by
                have : (decide (pq.1 = x) && !decide (pq.2 ∈ fl)) = true := by simp [hx2, hn]
                rw [List.filter_cons, this]
                rfl
              rw [upd_same, nums_snoc, ep, List.filter_append, e0, List.map_append]
              rfl
          · exact ⟨s4, d1, skip (by simp [hn])⟩
        · refine iteF ?_
          exact ⟨s4, d1, skip (by rw [decide_eq_false (fun h => hx1 (by rw [h]))]; rfl)⟩
      · rintro H4 ⟨s4, d1, d2⟩
        rw [lvl, List.take_length] at d2
        have f4 := s4 _ _ f3
        have nfD : f ≠ D := ne_of_none f3 d1
        have dr := fresh_drop (fl := fl) (x := x) ps
        generalize hgl : (ps.filter fun p => decide (p.1 = x) && !decide (p.2 ∈ fl)) = gl at d2 dr
        have hf0 : H f = none := hf
        have memg : ∀ z, z ∈ gl.map (·.2) ↔ (x, z) ∈ ps ∧ z ∉ fl := fun z => by
          rw [← hgl]
          constructor
          · intro h
            obtain ⟨pq, h1, h2⟩ := List.mem_map.mp h
            obtain ⟨h3, h4⟩ := List.mem_filter.mp h1
            simp at h4
            refine ⟨?_, by rw [← h2]; exact h4.2⟩
            rw [← h4.1, ← h2]
            exact h3
          · rintro ⟨h1, h2⟩
            exact List.mem_map.mpr ⟨(x, z), List.mem_filter.mpr ⟨h1, by simp [h2]⟩, rfl⟩
        refine ⟨f, D, _, _, rfl, rfl, f4, d2, big' (by rw [nums_len, nums_len, List.length_map]; omega), ?_⟩
        refine ⟨_, rfl, _, _, rfl, rfl, ?_⟩
        refine ⟨_, ?_, fl ++ gl.map (·.2), at_ + 1, _, _, rfl, Same.wr (s3.trans s4) hf0, ?_, ?_, fun z hz => ?_, fun z hz => List.mem_append_left _ (sw z hz), fun z y hz hy => ?_, ?_, rfl⟩
        · rw [List.length_append, List.length_map]
          omega
        · rw [upd_same]
          unfold nums
          rw [List.map_append]
        · rw [List.length_append]; omega
        · rcases List.mem_append.mp hz with h | h
          · exact wr z h
          · exact .step xr ((memg z).mp h).1
        · rw [List.take_append_of_le_length (by omega), et] at hz
          by_cases hyf : y ∈ fl
          · exact List.mem_append_left _ hyf
          · rcases List.mem_append.mp hz with h | h
            · exact List.mem_append_left _ (cl z y h hy)
            · have : z = x := by simpa using h
              subst this
              exact List.mem_append_right _ ((memg y).mpr ⟨hy, hyf⟩)
        · rw [List.length_append, List.length_map]
          omega
    · rw [nums_len] at hge
      have el : fl.take at_ = fl := List.take_of_length_le (by omega)
      rw [el] at cl
      refine ⟨_, rfl, ?_⟩
      refine sorted_setQ (SqL.of f3) (by omega) fun H4 a ns2 s4 ha ea asc2 mm2 => ?_
      refine q H4 a ns2 (s3.trans s4) ea asc2 fun x => ⟨fun h => wr x ((mm2 x).mp h), fun h => (mm2 x).mpr ?_⟩
      induction h with
      | base h => exact sw _ h
      | step _ h ih => exact cl _ _ ((fun z => z) ((mm2 _).mp ((mm2 _).mpr ih))) h
end
end K86
end
section
set_option maxHeartbeats 4000000
namespace K86
open PySem PySem.Spec PyProof.Rows L2
open C8 (Cal Met Mak pe_c pe_mk pe_mt pe_mt0)
section
variable {P : Program} {w : World} {K : PySem.W.Frag} {mg : Str → Option Value} {base : Heap}
abbrev WTr (K : PySem.W.Frag) (H : Hp) (w : Addr) (tr : Tr) : Prop := WAt K H w tr.n tr.bs tr.ms tr.es
theorem nums_last {l : List Int} {u : Int} (h : l[l.length - 1]? = some u) : atI (nums l) (-1) = some (.int u) := by
  have hn : l ≠ [] := fun e => by rw [e] at h; cases h
  have e1 := (List.dropLast_concat_getLast hn).symm
  rw [List.getLast_eq_getElem] at e1
  have e3 : l[l.length - 1]'(by have := List.length_pos_iff.mpr hn; omega) = u := by
    rw [List.getElem?_eq_getElem (by have := List.length_pos_iff.mpr hn; omega)] at h
    exact Option.some.inj h
  rw [e3] at e1
  rw [e1]
  unfold nums
  rw [List.map_append]
  exact atI_last _ _
def N_law_is_whole : List Str := ["_law_it"]
theorem sc_law_is_whole : FnScope N_law_is_whole ["_law_it"] (defScope s_law_is_whole) := ⟨rfl, rfl, rfl, by decide +kernel, rfl, by decide +kernel, by decide +kernel⟩
def sp_law_is_whole (K : PySem.W.Frag) : Sp := sp_is_integer_paces K
theorem C_law_is_whole (c : Cn K mg) : Cal P w K mg base 1 "_law_is_whole" (sp_law_is_whole K) [] := by
  refine mkCal (F_law_is_whole c) (g_law_is_whole c) sc_law_is_whole (fun _ _ _ _ _ _ us hl => match us, hl with | [_], _ => rfl) (fun vs H Q E h => ?_) (fun cdv A outer s H vs Q E hr h => ?_)
  · obtain ⟨i, rfl, _⟩ := h
    rfl
  · obtain ⟨i, rfl, q⟩ := h
    refine ⟨_, (pss_one (ps_ret (pe_and (pe_callB (isi K) (by rfl) (m_isinstance c) (by decide +kernel) (pa_cons (pv 0) (pa_cons (pe_bltn (v := .ty "int") (by rfl) (m_int c) (by decide +kernel) rfl) pa_nil))) (pe_one (pe_not (pe_callB (isi K) (by rfl) (m_isinstance c) (by decide +kernel) (pa_cons (pv 0) (pa_cons (pe_bltn (v := .ty "bool") (by rfl) (m_bool c) (by decide +kernel) rfl) pa_nil)))))))), ?_⟩
    refine ⟨_, rfl, _, _, _, _, true, rfl, .ty _, .base (.int _), kit_ty (by decide +kernel), _, rfl, ?_⟩
    refine ⟨_, rfl, _, _, _, _, false, rfl, .ty _, .base (.int _), kit_ty (by decide +kernel), _, rfl, ?_⟩
    exact q
def N_law_lead : List Str := ["_law_w", "_law_path_here", "_law_k"]
theorem sc_law_lead : FnScope N_law_lead ["_law_w", "_law_path_here"] (defScope s_law_lead) := ⟨rfl, rfl, rfl, by decide +kernel, rfl, by decide +kernel, by decide +kernel⟩
def sp_law_lead (K : PySem.W.Frag) : Sp := fun vs H Q _ => ∃ (wa p : Addr) (tr : Tr) (ns : List Int), vs = [.ref wa, .ref p] ∧ WTr K H wa tr ∧ (∀ m ∈ tr.ms, m.w.length ≤ 9) ∧ SqT K H p (nums ns) ∧ Within tr ns ∧ ns.length < sizeLine ∧ ∀ H', Same H H' → Q (.int (pathLead tr ns)) H'
theorem C_law_lead (c : Cn K mg) : Cal P w K mg base 1 "_law_lead" (sp_law_lead K) [] := by
  refine mkCal (F_law_lead c) (g_law_lead c) sc_law_lead (fun _ _ _ _ _ _ us hl => match us, hl with | [_, _], _ => rfl) (fun vs H Q E h => ?_) (fun cdv A outer s H vs Q E hr h => ?_)
  · obtain ⟨t, p, tr, ns, rfl, _⟩ := h
    rfl
  · obtain ⟨wa, p, tr, ns, rfl, ht, w9, hp, hw, hl, q⟩ := h
    have hu := hu_of hr
    refine ⟨_, (pss_one (ps_ret (pe_callB (sumI K) (by rfl) (m_sum c) (by decide +kernel) (pa_cons (pe_lc (own := [("_law_k", 2)]) rfl sc_law_lead.nd (piT K (pv 1)) (blkOk_by (own := [("_law_k", 2)]) (N := N_law_lead) (sc := defScope s_law_lead) (by decide +kernel)) (fun _ _ _ _ _ => (pg_name (i := 2) sc_law_lead.nd rfl (.inl rfl))) (fun _ _ _ _ _ => pts_nil) (fun _ _ _ _ _ => (pe_op op_sub (pe_callB call_len_str (by rfl) (m_len c) (by decide +kernel) (pa_cons (pe_ix (ixT K) (pe_ix (ixL K) (pe_dget hu (pv 0) pe_str (fun _ _ => rfl)) (pv 2) (fun _ _ => rfl)) pe_int (fun _ _ => rfl)) pa_nil)) pe_int))) pa_nil)))), ?_⟩
    refine ⟨_, rfl, p, rfl, ⟨_, hp⟩, fun D hD => lc_tup (K := K) (a := p) (xs := nums ns) (fun i H' => Same H H' ∧ H D = none ∧ H' D = some (.lst (nums ((ns.take i).map (leadAt tr)))))
      ⟨same_new hD, hD, upd_same⟩ (fun i H' _ h => sqT_same hp h.1) ?_ ?_⟩
    · rintro i x H1 hi ⟨s1, d1, d2⟩
      obtain ⟨k, rfl, hk⟩ := nums_get hi
      have wk := hw k (List.mem_of_getElem? hk)
      obtain ⟨m, hm⟩ := mv_at wk
      obtain ⟨i1, y, o, iv, yv, ov, e1, e2, e3, e4, r1, r2, r3⟩ := ht.same s1
      obtain ⟨a, ha, hrow⟩ := r2.2 _ _ hm
      refine ⟨rfl, ?_⟩
      refine ⟨_, rfl, wa, _, rfl, wget_ways e1, _, rfl, y, _, _, _, rfl, rfl, SqL.of e3, atI_int wk.1 ha, _, _, _, _, rfl, rfl, hrow, rfl, _, rfl, short (w9 m (List.mem_of_getElem? hm)), _, _, rfl, rfl, _, d2, ?_, Same.wr s1 d1, d1, ?_⟩
      · rw [nums_len, List.length_map, List.length_take]
        omega
      · have e : ns.take (i + 1) = ns.take i ++ [k] := by rw [List.take_add_one, hk]; rfl
        rw [upd_same, e, List.map_append]
        have e2 : leadAt tr k = (m.w.length : Int) - 1 := by unfold leadAt; rw [hm]
        show _ = some (HO.lst (nums (_ ++ [leadAt tr k])))
        rw [e2, ← nums_snoc]
    · rintro H1 ⟨s1, d1, d2⟩
      rw [nums_len, List.take_length] at d2
      exact ⟨D, _, rfl, SqL.of d2, q H1 s1⟩
def N_law_path : List Str := ["_law_w", "_law_start", "_law_path_here", "_law_found", "_law_k"]
theorem sc_law_path : FnScope N_law_path ["_law_w", "_law_start", "_law_path_here"] (defScope s_law_path) := ⟨rfl, rfl, rfl, by decide +kernel, rfl, by decide +kernel, by decide +kernel⟩
def sp_law_path (K : PySem.W.Frag) : Sp := fun vs H Q _ => ∃ (wa p : Addr) (tr : Tr) (s0 z : Int) (ns : List Int), vs = [.ref wa, .int s0, .ref p] ∧ WTr K H wa tr ∧ SqT K H p (nums ns) ∧ wk tr.ms s0 ns = some z ∧ ns.length ≤ 100000 ∧ ∀ H' a, Same H H' → H' a = some (.lst (nums (trail tr.ms s0 ns))) → Q (.ref a) H'
theorem C_law_path (c : Cn K mg) : Cal P w K mg base 1 "_law_path" (sp_law_path K) [] := by
  refine mkCal (F_law_path c) (g_law_path c) sc_law_path (fun _ _ _ _ _ _ us hl => match us, hl with | [_, _, _], _ => rfl) (fun vs H Q E h => ?_) (fun cdv A outer s H vs Q E hr h => ?_)
  · obtain ⟨t, p, tr, s0, z, ns, rfl, _⟩ := h
    rfl
  · obtain ⟨wa, p, tr, s0, z, ns, rfl, ht, hp, hw, hl, q⟩ := h
    have hu := hu_of hr
    refine ⟨_, (pss_cons (ps_set (i := 3) sc_law_path.nd rfl (.inl rfl) (pe_lst (pa_cons (pv 1) pa_nil)))
      (pss_cons (ps_for PassesOwn.never rfl (piT K (pe_ifExp (pt_val (pe_callB (isi K) (by rfl) (m_isinstance c) (by decide +kernel) (pa_cons (pv 2) (pa_cons (pe_bltn (v := .ty "tuple") (by rfl) (m_tuple c) (by decide +kernel) rfl) pa_nil)))) (pv 2) (pe_tup (pa_cons pe_non pa_nil)))) (pg_name (i := 4) sc_law_path.nd rfl (.inl rfl))
        (pss_cons (ps_if (PW.pt (pw_or (pt_not (pt_val (pe_callB (isi K) (by rfl) (m_isinstance c) (by decide +kernel) (pa_cons (pv 4) (pa_cons (pe_bltn (v := .ty "int") (by rfl) (m_int c) (by decide +kernel) rfl) pa_nil))))) (pw_or (pt_val (pe_callB (isi K) (by rfl) (m_isinstance c) (by decide +kernel) (pa_cons (pv 4) (pa_cons (pe_bltn (v := .ty "bool") (by rfl) (m_bool c) (by decide +kernel) rfl) pa_nil)))) (pw_or (pt_not (pt_chain op_le op_lt pe_int (pv 4) (pe_callB (lenS K) (by rfl) (m_len c) (by decide +kernel) (pa_cons (pe_dget hu (pv 0) pe_str (fun _ _ => rfl)) pa_nil)))) (pw_or1 (pt_cmpR op_ne (pe_ix (ixT K) (pe_ix (ixL K) (pe_dget hu (pv 0) pe_str (fun _ _ => rfl)) (pv 4) (fun _ _ => rfl)) pe_int (fun _ _ => rfl)) (pe_ix (ixL K) (pv 3) (pe_un un_neg pe_int) (fun _ _ => rfl)) (nomark _)))))))
          (pss_one (ps_ret pe_non))
          pss_nil)
        (pss_one (ps_expr (pe_bm PySem.F.plainAttrs_list PySem.F.slot_list_append PySem.F.type_list_append mt_append (pv 3) (pa_cons (pe_ix (ixT K) (pe_ix (ixL K) (pe_dget hu (pv 0) pe_str (fun _ _ => rfl)) (pv 4) (fun _ _ => rfl)) pe_int (fun _ _ => rfl)) pa_nil))))))
      (pss_one (ps_ret (pv 3))))), ?_⟩
    refine ⟨_, rfl, (by show 1 ≤ sizeLine; decide), fun F hF => ?_⟩
    have s1 := same_new (o := .lst [.int s0]) hF
    refine ⟨_, rfl, _, _, _, _, true, rfl, .ty _, tyT (sqT_same hp s1), kit_ty (by decide +kernel), _, rfl, ?_⟩
    refine ⟨_, rfl, p, rfl, ⟨_, sqT_same hp s1⟩, for_tup (K := K) (a := p) (xs := nums ns) (fun i σ H' => Same H H' ∧ H' F = some (.lst (nums (trail tr.ms s0 (ns.take i)))) ∧ ∃ x, σ = [some (.ref wa), some (.int s0), some (.ref p), some (.ref F), x])
      ⟨s1, by rw [upd_same]; rfl, _, rfl⟩ (fun i σ H' _ h => sqT_same hp h.1) ?_ ?_⟩
    · rintro i x σ H1 hi ⟨s2, f2, x0, rfl⟩
      obtain ⟨k, rfl, hk⟩ := nums_get hi
      obtain ⟨m, m1, m2, m3, m4, m5⟩ := wk_at hw hk
      have il : i < ns.length := (List.getElem?_eq_some_iff.mp hk).1
      obtain ⟨i1, y, o, iv, yv, ov, e1, e2, e3, e4, r1, r2, r3⟩ := ht.same s2
      obtain ⟨a, ha, hrow⟩ := r2.2 _ _ m3
      have tl := trail_len (ms := tr.ms) (s := s0) (ns := ns.take i)
      have il2 : (ns.take i).length = i := by rw [List.length_take]; omega
      have last : atI (nums (trail tr.ms s0 (ns.take i))) (-1) = some (.int m.s) := by
        refine nums_last ?_
        rw [tl, il2, Nat.add_sub_cancel]
        obtain ⟨u, h1, h2⟩ := trail_at m4 (n := i) (by omega)
        rw [List.take_take, Nat.min_self, m4] at h2
        rw [h1, h2]
      refine ⟨_, rfl, _, _, _, _, true, rfl, .ty _, .base (.int _), kit_ty (by decide +kernel), _, rfl, ?_⟩
      refine ⟨_, rfl, _, _, _, _, false, rfl, .ty _, .base (.int _), kit_ty (by decide +kernel), _, rfl, ?_⟩
      refine ⟨_, rfl, _, _, rfl, rfl, _, rfl, ?_⟩
      refine ifT m1 ?_
      refine ⟨_, rfl, wa, _, rfl, wget_ways e1, y, _, rfl, .inl (SqL.of e3), _, _, rfl, rfl, _, rfl, ?_⟩
      refine ifNT (a := k < (yv.length : Int)) (by rw [r2.1]; exact m2) ?_
      refine ⟨_, rfl, wa, _, rfl, wget_ways e1, _, rfl, y, _, _, _, rfl, rfl, SqL.of e3, atI_int m1 ha, _, _, _, _, rfl, rfl, hrow, rfl, _, rfl, 1, rfl, F, _, _, _, rfl, rfl, SqL.of f2, last, rfl, _, rfl, ?_⟩
      refine ifNT rfl ?_
      have nF : H F = none := hF
      have f2l : (nums (trail tr.ms s0 (ns.take i))).length < sizeLine := big (by rw [nums_len, tl]; omega)
      refine ⟨_, rfl, .inl ⟨rfl, _, SqL.of f2⟩, _, rfl, wa, _, rfl, wget_ways e1, _, rfl, y, _, _, _, rfl, rfl, SqL.of e3, atI_int m1 ha, _, _, _, _, rfl, rfl, hrow, rfl, F, _, _, rfl, rfl, f2, f2l, ?_⟩
      refine ⟨Same.wr s2 nF, ?_, _, rfl⟩
      have e : ns.take (i + 1) = ns.take i ++ [k] := by rw [List.take_add_one, hk]; rfl
      have etg : tgt tr.ms k = m.t := by unfold tgt; rw [m3]
      rw [upd_same, e, trail_snoc, etg, ← nums_snoc]
    · rintro σ H1 ⟨s2, f2, x0, rfl⟩
      rw [nums_len, List.take_length] at f2
      exact ⟨_, rfl, q H1 F s2 f2⟩
def N_law_walk : List Str := ["_law_w", "_law_it"]
theorem sc_law_walk : FnScope N_law_walk ["_law_w", "_law_it"] (defScope s_law_walk) := ⟨rfl, rfl, rfl, by decide +kernel, rfl, by decide +kernel, by decide +kernel⟩
def sp_law_walk (K : PySem.W.Frag) : Sp := fun vs H Q _ => ∃ (wa r : Addr) (tr : Tr) (b : Int) (ns : List Int) (g : Bg) (z : Int), vs = [.ref wa, .ref r] ∧ WTr K H wa tr ∧ RunAt K H r b ns ∧ 0 ≤ b ∧ tr.bs[b.toNat]? = some g ∧ wk tr.ms g.s ns = some z ∧ ns.length ≤ 100000 ∧ ∀ H' a, Same H H' → H' a = some (.lst (nums (trail tr.ms g.s ns))) → Q (.ref a) H'
theorem C_law_walk (c : Cn K mg) : Cal P w K mg base 2 "_law_walk" (sp_law_walk K) [] := by
  refine mkCal (F_law_walk c) (g_law_walk c) sc_law_walk (fun _ _ _ _ _ _ us hl => match us, hl with | [_, _], _ => rfl) (fun vs H Q E h => ?_) (fun cdv A outer s H vs Q E hr h => ?_)
  · obtain ⟨t, p, tr, b, ns, g, z, rfl, _⟩ := h
    rfl
  · obtain ⟨wa, r, tr, b, ns, g, z, rfl, ht, ⟨p, h1, h2⟩, b0, hg, hw, hl, q⟩ := h
    have hu := hu_of hr
    have ht0 := ht
    obtain ⟨i1, y, o, iv, yv, ov, e1, e2, e3, e4, r1, r2, r3⟩ := ht0
    obtain ⟨a, ha, hrow⟩ := r1.2 _ _ hg
    have bl : b < tr.bs.length := by have := (List.getElem?_eq_some_iff.mp hg).1; omega
    refine ⟨_, (pss_cons (ps_if (PW.pt (pw_or (pt_not (pt_val (pe_callB (isi K) (by rfl) (m_isinstance c) (by decide +kernel) (pa_cons (pv 1) (pa_cons (pe_bltn (v := .ty "tuple") (by rfl) (m_tuple c) (by decide +kernel) rfl) pa_nil))))) (pw_or (pt_cmpR op_ne (pe_callB (lenS K) (by rfl) (m_len c) (by decide +kernel) (pa_cons (pv 1) pa_nil)) pe_int (nomark _)) (pw_or (pt_not (pt_val (pe_callB (isi K) (by rfl) (m_isinstance c) (by decide +kernel) (pa_cons (pe_ix (ixT K) (pv 1) pe_int (fun _ _ => rfl)) (pa_cons (pe_bltn (v := .ty "int") (by rfl) (m_int c) (by decide +kernel) rfl) pa_nil))))) (pw_or1 (pt_val (pe_callB (isi K) (by rfl) (m_isinstance c) (by decide +kernel) (pa_cons (pe_ix (ixT K) (pv 1) pe_int (fun _ _ => rfl)) (pa_cons (pe_bltn (v := .ty "bool") (by rfl) (m_bool c) (by decide +kernel) rfl) pa_nil)))))))))
        (pss_one (ps_ret pe_non))
        pss_nil)
      (pss_one (ps_ret (pe_ifExp (pt_chain op_le op_lt pe_int (pe_ix (ixT K) (pv 1) pe_int (fun _ _ => rfl)) (pe_callB (lenS K) (by rfl) (m_len c) (by decide +kernel) (pa_cons (pe_dget hu (pv 0) pe_str (fun _ _ => rfl)) pa_nil))) (pe_c (C_law_path c) hr (by decide) rfl (pa_cons (pv 0) (pa_cons (pe_ix (ixT K) (pe_ix (ixL K) (pe_dget hu (pv 0) pe_str (fun _ _ => rfl)) (pe_ix (ixT K) (pv 1) pe_int (fun _ _ => rfl)) (fun _ _ => rfl)) pe_int (fun _ _ => rfl)) (pa_cons (pe_ix (ixT K) (pv 1) pe_int (fun _ _ => rfl)) pa_nil)))) pe_non)))), ?_⟩
    refine ⟨_, rfl, _, _, _, _, true, rfl, .ty _, tyT h1, kit_ty (by decide +kernel), _, rfl, ?_⟩
    refine ⟨_, rfl, _, _, rfl, .inr h1, rfl, _, rfl, ?_⟩
    refine ⟨_, rfl, _, _, _, _, rfl, rfl, h1, rfl, _, _, _, _, true, rfl, .ty _, .base (.int _), kit_ty (by decide +kernel), _, rfl, ?_⟩
    refine ⟨_, rfl, _, _, _, _, rfl, rfl, h1, rfl, _, _, _, _, false, rfl, .ty _, .base (.int _), kit_ty (by decide +kernel), _, rfl, ?_⟩
    refine ⟨_, rfl, _, _, _, _, rfl, rfl, h1, rfl, _, _, rfl, rfl, _, rfl, ?_⟩
    refine ifT b0 ?_
    refine ⟨_, rfl, wa, _, rfl, wget_in e1, i1, _, rfl, .inl (SqL.of e2), _, _, rfl, rfl, _, rfl, ?_⟩
    refine ifT (by rw [r1.1]; exact bl) ?_
    refine ⟨_, rfl, _, rfl, wa, _, rfl, wget_in e1, _, rfl, _, _, _, _, rfl, rfl, h1, rfl, i1, _, _, _, rfl, rfl, SqL.of e2, atI_int b0 ha, _, _, _, _, rfl, rfl, hrow, rfl, _, rfl, _, _, _, _, rfl, rfl, h1, rfl, wa, p, tr, g.s, z, ns, rfl, ht, h2, hw, hl, q⟩
def N_law_alive : List Str := ["_law_w", "_law_ahead", "_law_behind", "_law_state", "_law_way"]
theorem sc_law_alive : FnScope N_law_alive ["_law_w"] (defScope s_law_alive) := ⟨rfl, rfl, rfl, by decide +kernel, rfl, by decide +kernel, by decide +kernel⟩
def sp_law_alive (K : PySem.W.Frag) : Sp := fun vs H Q _ => ∃ (wa : Addr) (n : Int) (bs : List Bg) (ms : List Mv) (es : List Bg), vs = [.ref wa] ∧ WAt K H wa n bs ms es ∧ bs.length ≤ 9 ∧ ms.length ≤ 9 ∧ es.length ≤ 9 ∧ ∀ H' a us, Same H H' → H' a = some (.lst (nums us)) → Usf bs ms es us → H a = none → Q (.ref a) H'
theorem C_law_alive (c : Cn K mg) : Cal P w K mg base 2 "_law_alive" (sp_law_alive K) [] := by
  refine mkCal (F_law_alive c) (g_law_alive c) sc_law_alive (fun _ _ _ _ _ _ us hl => match us, hl with | [_], _ => rfl) (fun vs H Q E h => ?_) (fun cdv A outer s H vs Q E hr h => ?_)
  · obtain ⟨wa, n, bs, ms, es, rfl, _⟩ := h
    rfl
  · obtain ⟨wa, n, bs, ms, es, rfl, ht, lb, lm, le, q⟩ := h
    have hu := hu_of hr
    refine ⟨_, (pss_cons (ps_set (i := 1) sc_law_alive.nd rfl (.inl rfl) (pe_c (C_law_spread c) hr (by decide) rfl (pa_cons (pe_lc (own := [("_law_way", 4)]) rfl sc_law_alive.nd (piL K (pe_dget hu (pv 0) pe_str (fun _ _ => rfl))) (blkOk_by (own := [("_law_way", 4)]) (N := N_law_alive) (sc := defScope s_law_alive) (by decide +kernel)) (fun _ _ _ _ _ => (pg_name (i := 4) sc_law_alive.nd rfl (.inl rfl))) (fun _ _ _ _ _ => pts_nil) (fun _ _ _ _ _ => (pe_ix (ixT K) (pv 4) pe_int (fun _ _ => rfl)))) (pa_cons (pe_lc (own := [("_law_way", 4)]) rfl sc_law_alive.nd (piL K (pe_dget hu (pv 0) pe_str (fun _ _ => rfl))) (blkOk_by (own := [("_law_way", 4)]) (N := N_law_alive) (sc := defScope s_law_alive) (by decide +kernel)) (fun _ _ _ _ _ => (pg_name (i := 4) sc_law_alive.nd rfl (.inl rfl))) (fun _ _ _ _ _ => pts_nil) (fun _ _ _ _ _ => (pe_tup (pa_cons (pe_ix (ixT K) (pv 4) pe_int (fun _ _ => rfl)) (pa_cons (pe_ix (ixT K) (pv 4) pe_int (fun _ _ => rfl)) pa_nil))))) pa_nil))))
      (pss_cons (ps_set (i := 2) sc_law_alive.nd rfl (.inr rfl) (pe_c (C_law_spread c) hr (by decide) rfl (pa_cons (pe_lc (own := [("_law_way", 4)]) rfl sc_law_alive.nd (piL K (pe_dget hu (pv 0) pe_str (fun _ _ => rfl))) (blkOk_by (own := [("_law_way", 4)]) (N := N_law_alive) (sc := defScope s_law_alive) (by decide +kernel)) (fun _ _ _ _ _ => (pg_name (i := 4) sc_law_alive.nd rfl (.inl rfl))) (fun _ _ _ _ _ => pts_nil) (fun _ _ _ _ _ => (pe_ix (ixT K) (pv 4) pe_int (fun _ _ => rfl)))) (pa_cons (pe_lc (own := [("_law_way", 4)]) rfl sc_law_alive.nd (piL K (pe_dget hu (pv 0) pe_str (fun _ _ => rfl))) (blkOk_by (own := [("_law_way", 4)]) (N := N_law_alive) (sc := defScope s_law_alive) (by decide +kernel)) (fun _ _ _ _ _ => (pg_name (i := 4) sc_law_alive.nd rfl (.inl rfl))) (fun _ _ _ _ _ => pts_nil) (fun _ _ _ _ _ => (pe_tup (pa_cons (pe_ix (ixT K) (pv 4) pe_int (fun _ _ => rfl)) (pa_cons (pe_ix (ixT K) (pv 4) pe_int (fun _ _ => rfl)) pa_nil))))) pa_nil))))
      (pss_one (ps_ret (pe_lc (own := [("_law_state", 3)]) rfl sc_law_alive.nd (piL K (pv 1)) (blkOk_by (own := [("_law_state", 3)]) (N := N_law_alive) (sc := defScope s_law_alive) (by decide +kernel)) (fun _ _ _ _ _ => (pg_name (i := 3) sc_law_alive.nd rfl (.inl rfl))) (fun _ _ _ _ _ => pts_one (pt_cmpR (inI K) (pv 3) (pv 2) (by rfl))) (fun _ _ _ _ _ => (pv 3))))))), ?_⟩
    obtain ⟨i1, y, o, iv, yv, ov, e1, e2, e3, e4, r1, r2, r3⟩ := ht
    have ht : WAt K H wa n bs ms es := ⟨i1, y, o, iv, yv, ov, e1, e2, e3, e4, r1, r2, r3⟩
    refine ⟨_, rfl, wa, _, rfl, wget_in e1, i1, rfl, ⟨_, SqL.of e2⟩, fun D hD => lc_list (K := K) (a := i1) (xs := iv) (fun i H' => Same H H' ∧ H D = none ∧ H' D = some (.lst (nums ((bs.take i).map (·.s))))) ⟨same_new hD, hD, upd_same⟩ (fun i H' _ h => SqL.of (h.1 _ _ e2)) ?_ ?_⟩
    · rintro i x H2 hi ⟨s2, d1, d2⟩
      obtain ⟨g, a, hg, rfl, hrow⟩ := r1.get hi
      have et : bs.take (i + 1) = bs.take i ++ [g] := by rw [List.take_add_one, hg]; rfl
      have il := (List.getElem?_eq_some_iff.mp hg).1
      refine ⟨rfl, ?_⟩
      refine ⟨_, rfl, _, _, _, _, rfl, rfl, sqT_same hrow s2, rfl, ?_⟩
      refine ⟨_, d2, big (by rw [nums_len, List.length_map, List.length_take]; omega), Same.wr s2 d1, d1, ?_⟩
      rw [upd_same, et, List.map_append, List.map_cons, List.map_nil, ← nums_snoc]
    rintro H1 ⟨sC, d1, f1⟩
    rw [show bs.take iv.length = bs from List.take_of_length_le (by rw [r1.1]; exact Nat.le_refl _)] at f1
    clear d1
    clear e1 e2 e3 e4 r1 r2 r3 i1 y o iv yv ov
    obtain ⟨i1, y, o, iv, yv, ov, e1, e2, e3, e4, r1, r2, r3⟩ := ht.same sC
    refine ⟨_, rfl, wa, _, rfl, wget_ways e1, y, rfl, ⟨_, SqL.of e3⟩, fun E hE => lc_list (K := K) (a := y) (xs := yv) (fun i H' => Same H1 H' ∧ H1 E = none ∧ ∃ lv, H' E = some (.lst lv) ∧ Paired (PairAt H') lv ((ms.take i).map (fun m => (m.s, m.t))) ∧ lv.length ≤ i) ⟨same_new hE, hE, [], upd_same, .nil, Nat.le_refl _⟩ (fun i H' _ h => SqL.of (h.1 _ _ e3)) ?_ ?_⟩
    · rintro i x H2 hi ⟨s2, d1, lv, d2, pr, ll⟩
      obtain ⟨g, a, hg, rfl, hrow⟩ := r2.get hi
      have et : ms.take (i + 1) = ms.take i ++ [g] := by rw [List.take_add_one, hg]; rfl
      have il := (List.getElem?_eq_some_iff.mp hg).1
      refine ⟨rfl, ?_⟩
      refine ⟨_, rfl, _, _, _, _, rfl, rfl, sqT_same hrow s2, rfl, _, rfl, _, _, _, _, rfl, rfl, sqT_same hrow s2, rfl, (by show 2 ≤ sizeLine; decide), fun z hz => ?_⟩
      have sy := same_new (o := .tup [.int ((fun m => (m.s, m.t)) g).1, .int ((fun m => (m.s, m.t)) g).2]) hz
      have d3 := sy _ _ d2
      refine ⟨lv, d3, big (by omega), Same.wr (s2.trans sy) d1, d1, lv ++ [.ref z], upd_same, ?_, by simp; omega⟩
      rw [et, List.map_append]
      have ny : z ≠ E := (ne_of_none d2 hz).symm
      exact pairApp (pairAt_lst d3 (pairAt_same sy pr)) (.cons ⟨z, rfl, by rw [upd_ne ny]; exact upd_same⟩ .nil)
    rintro H2 ⟨sd2, d1, lv, g1, pr, ll⟩
    rw [show ms.take yv.length = ms from List.take_of_length_le (by rw [r2.1]; exact Nat.le_refl _)] at pr
    clear d1 ll e1 e2 e3 e4 r1 r2 r3
    refine ⟨D, E, bs.map (·.s), lv, ms.map (fun m => (m.s, m.t)), rfl, SqL.of (sd2 _ _ f1), g1, pr, by rw [List.length_map]; exact lb, by rw [List.length_map]; exact lm, fun H3 A1 n1 s3 a1 asc1 mm1 => ?_⟩
    have s03 := (sC.trans sd2).trans s3
    clear pr g1 f1 sd2 i1 y o iv yv ov lv
    obtain ⟨i1, y, o, iv, yv, ov, e1, e2, e3, e4, r1, r2, r3⟩ := ht.same s03
    refine ⟨_, rfl, wa, _, rfl, wget_out e1, o, rfl, ⟨_, SqL.of e4⟩, fun D hD => lc_list (K := K) (a := o) (xs := ov) (fun i H' => Same H3 H' ∧ H3 D = none ∧ H' D = some (.lst (nums ((es.take i).map (·.s))))) ⟨same_new hD, hD, upd_same⟩ (fun i H' _ h => SqL.of (h.1 _ _ e4)) ?_ ?_⟩
    · rintro i x H2 hi ⟨s2, d1, d2⟩
      obtain ⟨g, a, hg, rfl, hrow⟩ := r3.get hi
      have et : es.take (i + 1) = es.take i ++ [g] := by rw [List.take_add_one, hg]; rfl
      have il := (List.getElem?_eq_some_iff.mp hg).1
      refine ⟨rfl, ?_⟩
      refine ⟨_, rfl, _, _, _, _, rfl, rfl, sqT_same hrow s2, rfl, ?_⟩
      refine ⟨_, d2, big (by rw [nums_len, List.length_map, List.length_take]; omega), Same.wr s2 d1, d1, ?_⟩
      rw [upd_same, et, List.map_append, List.map_cons, List.map_nil, ← nums_snoc]
    rintro H4 ⟨s34, d1, f4⟩
    rw [show es.take ov.length = es from List.take_of_length_le (by rw [r3.1]; exact Nat.le_refl _)] at f4
    clear d1
    clear e1 e2 e3 e4 r1 r2 r3 i1 y o iv yv ov
    have sC := s03.trans s34
    obtain ⟨i1, y, o, iv, yv, ov, e1, e2, e3, e4, r1, r2, r3⟩ := ht.same sC
    refine ⟨_, rfl, wa, _, rfl, wget_ways e1, y, rfl, ⟨_, SqL.of e3⟩, fun E hE => lc_list (K := K) (a := y) (xs := yv) (fun i H' => Same H4 H' ∧ H4 E = none ∧ ∃ lv, H' E = some (.lst lv) ∧ Paired (PairAt H') lv ((ms.take i).map (fun m => (m.t, m.s))) ∧ lv.length ≤ i) ⟨same_new hE, hE, [], upd_same, .nil, Nat.le_refl _⟩ (fun i H' _ h => SqL.of (h.1 _ _ e3)) ?_ ?_⟩
    · rintro i x H2 hi ⟨s2, d1, lv, d2, pr, ll⟩
      obtain ⟨g, a, hg, rfl, hrow⟩ := r2.get hi
      have et : ms.take (i + 1) = ms.take i ++ [g] := by rw [List.take_add_one, hg]; rfl
      have il := (List.getElem?_eq_some_iff.mp hg).1
      refine ⟨rfl, ?_⟩
      refine ⟨_, rfl, _, _, _, _, rfl, rfl, sqT_same hrow s2, rfl, _, rfl, _, _, _, _, rfl, rfl, sqT_same hrow s2, rfl, (by show 2 ≤ sizeLine; decide), fun z hz => ?_⟩
      have sy := same_new (o := .tup [.int ((fun m => (m.t, m.s)) g).1, .int ((fun m => (m.t, m.s)) g).2]) hz
      have d3 := sy _ _ d2
      refine ⟨lv, d3, big (by omega), Same.wr (s2.trans sy) d1, d1, lv ++ [.ref z], upd_same, ?_, by simp; omega⟩
      rw [et, List.map_append]
      have ny : z ≠ E := (ne_of_none d2 hz).symm
      exact pairApp (pairAt_lst d3 (pairAt_same sy pr)) (.cons ⟨z, rfl, by rw [upd_ne ny]; exact upd_same⟩ .nil)
    rintro H5 ⟨s45, d1, lv, g5, pr, ll⟩
    rw [show ms.take yv.length = ms from List.take_of_length_le (by rw [r2.1]; exact Nat.le_refl _)] at pr
    clear d1 ll e1 e2 e3 e4 r1 r2 r3
    refine ⟨D, E, es.map (·.s), lv, ms.map (fun m => (m.t, m.s)), rfl, SqL.of (s45 _ _ f4), g5, pr, by rw [List.length_map]; exact le, by rw [List.length_map]; exact lm, fun H6 A2 n2 s6 a2 asc2 mm2 => ?_⟩
    have s36 := (s34.trans s45).trans s6
    have s06 := s03.trans s36
    have a1' := s36 _ _ a1
    clear pr g5 f4 s45
    refine ⟨_, rfl, A1, rfl, ⟨_, SqL.of a1'⟩, fun B hB => lc_list (K := K) (a := A1) (xs := nums n1) (fun i H' => Same H6 H' ∧ H6 B = none ∧ H' B = some (.lst (nums ((n1.take i).filter fun x => decide (x ∈ n2))))) ⟨same_new hB, hB, upd_same⟩ (fun i H' _ h => SqL.of (h.1 _ _ a1')) ?_ ?_⟩
    · rintro i x H7 hi ⟨s7, d1, d2⟩
      obtain ⟨z, rfl, hz⟩ := nums_get hi
      have et : n1.take (i + 1) = n1.take i ++ [z] := by rw [List.take_add_one, hz]; rfl
      refine ⟨rfl, ?_⟩
      refine ⟨_, rfl, _, rfl, z, n2, A2, rfl, rfl, .inl (SqL.of (s7 _ _ a2)), _, rfl, ?_⟩
      refine iteD (fun hm => ?_) (fun hm => ?_)
      · have e0 : [z].filter (fun x => decide (x ∈ n2)) = [z] := by simp [hm]
        refine ⟨_, rfl, _, d2, ?_, Same.wr s7 d1, d1, ?_⟩
        · have l2 : ((n1.take i).filter fun x => decide (x ∈ n2)).length ≤ 18 := by
            have nd : ((n1.take i).filter fun x => decide (x ∈ n2)).Nodup := (asc1.nd.sublist (List.take_sublist _ _)).sublist List.filter_sublist
            have := nd.length_le_of_subset (l₂ := st bs ++ (fw ms).map (·.2)) fun z hz => reach_mem ((mm1 z).mp (List.mem_of_mem_take (List.mem_filter.mp hz).1))
            unfold st fw at this
            rw [List.length_append, List.length_map, List.length_map, List.length_map] at this
            omega
          rw [nums_len]
          exact big (by omega)
        · rw [upd_same, nums_snoc, et, List.filter_append, e0]
      · have e0 : [z].filter (fun x => decide (x ∈ n2)) = [] := by simp [hm]
        refine ⟨s7, d1, ?_⟩
        rw [et, List.filter_append, e0, List.append_nil]
        exact d2
    · rintro H7 ⟨s7, d1, d2⟩
      rw [nums_len, List.take_length] at d2
      refine q H7 B _ (s06.trans s7) d2 ⟨List.Pairwise.sublist List.filter_sublist asc1, fun i => ?_⟩ (s06.free hB)
      rw [List.mem_filter, mm1 i]
      constructor
      · rintro ⟨h1, h2⟩
        exact ⟨h1, (mm2 i).mp (of_decide_eq_true h2)⟩
      · rintro ⟨h1, h2⟩
        exact ⟨h1, decide_eq_true ((mm2 i).mpr h2)⟩
end
end K86
end
section
set_option maxHeartbeats 4000000
namespace K86
open PySem PySem.Spec PyProof.Rows L2
open C8 (Cal Met Mak pe_c pe_mk pe_mt pe_mt0)
theorem blkNF {N : List Str} {sc scope : Scope} {own : List (Str × Nat)} (h : blkC N ⟨.function, [], false, false, []⟩ scope own = true) : BlkOk N sc scope own := by
  have b : BlkOk N ⟨.function, [], false, false, []⟩ scope own := blkOk_by h
  exact ⟨b.kind, b.uniq, b.ix, fun y hy e => (by rcases b.free y hy e with h | h <;> cases h), b.own⟩
section
variable {P : Program} {w : World} {K : PySem.W.Frag} {mg : Str → Option Value} {base : Heap}
def N_law_is_ring : List Str := ["_law_w", "_law_run_now", "_law_ring", "_law_mark", "_law_states", "_law_round_now"]
theorem sc_law_is_ring : FnScope N_law_is_ring ["_law_w", "_law_run_now", "_law_ring", "_law_mark"] (defScope s_law_is_ring) := ⟨rfl, rfl, rfl, by decide +kernel, rfl, by decide +kernel, by decide +kernel⟩
def sp_law_is_ring (K : PySem.W.Frag) : Sp := fun vs H Q _ => ∃ (wa r q' : Addr) (tr : Tr) (sg b : Int) (pre lp : List Int) (g : Bg) (u : Int), vs = [.ref wa, .ref r, .ref q', .int sg] ∧ WTr K H wa tr ∧ TrOk tr ∧ tr.es.length ≤ 9 ∧ Usf tr.bs tr.ms tr.es tr.us ∧ RunAt K H r b pre ∧ SqT K H q' (nums lp) ∧ Rising tr sg b pre lp g u ∧ (sg = 1 ∨ sg = -1) ∧ ∀ H', Same H H' → Q (.bl true) H'
theorem usf_unique {bs : List Bg} {ms : List Mv} {es : List Bg} {us us' : List Int} (h : Usf bs ms es us) (h' : Usf bs ms es us') : us = us' := asc_unique h.1 h'.1 fun i => by rw [h.2, h'.2]
theorem rising_us {tr : Tr} {sg b : Int} {pre lp : List Int} {g : Bg} {u : Int} (ri : Rising tr sg b pre lp g u) : u ∈ tr.us := by
  obtain ⟨x, e1, e2⟩ := trail_at ri.go (n := pre.length) (Nat.le_refl _)
  rw [List.take_length, ri.go] at e2
  cases e2
  refine ri.us _ ?_
  have e3 : trail tr.ms g.s pre = (trail tr.ms g.s (pre ++ lp)).take (pre.length + 1) := by
    rw [← trail_take, List.take_append_of_le_length (Nat.le_refl _), List.take_length]
  exact List.mem_of_mem_take (e3 ▸ List.mem_of_getElem? e1)
theorem trail_last {ms : List Mv} {s z : Int} {ns : List Int} (h : wk ms s ns = some z) : atI (nums (trail ms s ns)) (-1) = some (.int z) := by
  refine nums_last ?_
  obtain ⟨x, e1, e2⟩ := trail_at h (n := ns.length) (Nat.le_refl _)
  rw [List.take_length, h] at e2
  rw [trail_len, Nat.add_sub_cancel, e1, e2]
theorem C_law_is_ring (c : Cn K mg) : Cal P w K mg base 3 "_law_is_ring" (sp_law_is_ring K) [] := by
  refine mkCal (F_law_is_ring c) (g_law_is_ring c) sc_law_is_ring (fun _ _ _ _ _ _ us hl => match us, hl with | [_, _, _, _], _ => rfl) (fun vs H Q E h => ?_) (fun cdv A outer s H vs Q E hr h => ?_)
  · obtain ⟨wa, r, q', tr, sg, b, pre, lp, g, u, rfl, _⟩ := h
    rfl
  · obtain ⟨wa, r, q', tr, sg, b, pre, lp, g, u, rfl, ht, ok, le, usf, hr', hq, ri, hsg, q⟩ := h
    refine ⟨_, (pss_cons (ps_set (i := 4) sc_law_is_ring.nd rfl (.inl rfl) (pe_c (C_law_walk c) hr (by decide) rfl (pa_cons (pv 0) (pa_cons (pv 1) pa_nil))))
      (pss_cons (ps_if (PW.pt (pw_or (pt_cmpR op_isN (pv 4) pe_non (nomark _)) (pw_or (pt_cmpR (notInI K) (pe_ix (ixL K) (pv 4) (pe_un un_neg pe_int) (fun _ _ => rfl)) (pe_c (C_law_alive c) hr (by decide) rfl (pa_cons (pv 0) pa_nil)) (by rfl)) (pw_or (pt_not (pt_val (pe_callB (isi K) (by rfl) (m_isinstance c) (by decide +kernel) (pa_cons (pv 2) (pa_cons (pe_bltn (v := .ty "tuple") (by rfl) (m_tuple c) (by decide +kernel) rfl) pa_nil))))) (pw_or1 (pt_cmpR (eqE K hr.units) (pv 2) (pe_tup pa_nil) (nomark _)))))))
        (pss_one (ps_ret pe_bl))
        pss_nil)
      (pss_cons (ps_set (i := 5) sc_law_is_ring.nd rfl (.inl rfl) (pe_c (C_law_path c) hr (by decide) rfl (pa_cons (pv 0) (pa_cons (pe_ix (ixL K) (pv 4) (pe_un un_neg pe_int) (fun _ _ => rfl)) (pa_cons (pv 2) pa_nil)))))
      (pss_one (ps_ret (pe_and (pe_cmpR op_notN (pv 5) pe_non (nomark _)) (pe_and (pe_cmpR op_eq (pe_ix (ixL K) (pv 5) (pe_un un_neg pe_int) (fun _ _ => rfl)) (pe_ix (ixL K) (pv 4) (pe_un un_neg pe_int) (fun _ _ => rfl)) (nomark _)) (pe_one (pe_cmpR op_gt (pe_op op_mul (pe_c (C_law_lead c) hr (by decide) rfl (pa_cons (pv 0) (pa_cons (pv 2) pa_nil))) (pv 3)) pe_int (nomark _)))))))))), ?_⟩
    have ln := ri.ln
    refine ⟨_, rfl, _, rfl, wa, r, tr, b, pre, g, u, rfl, ht, hr', ri.b0, ri.bg, ri.go, by omega, fun H1 a1 s1 e1 => ?_⟩
    refine ⟨_, rfl, rfl, _, rfl, ?_⟩
    refine ifF (by intro z; cases z) ?_
    refine ⟨_, rfl, 1, rfl, a1, _, _, _, rfl, rfl, SqL.of e1, trail_last ri.go, _, rfl, wa, tr.n, tr.bs, tr.ms, tr.es, rfl, ht.same s1, ok.ln.1, ok.ln.2.1, le, fun H2 a2 us2 s2 e2 usf2 _ => ?_⟩
    have eus := usf_unique usf usf2
    subst eus
    refine ⟨u, tr.us, a2, rfl, rfl, .inl (SqL.of e2), _, rfl, ?_⟩
    refine ifNT (rising_us ri) ?_
    have s02 := s1.trans s2
    refine ⟨_, rfl, _, _, _, _, true, rfl, .ty _, tyT (sqT_same hq s02), kit_ty (by decide +kernel), _, rfl, ?_⟩
    refine ⟨_, rfl, Nat.zero_le _, fun e he => ?_⟩
    have s3 := same_new (o := .tup []) he
    have de : upd H2 e (.tup []) e = some (.tup []) := upd_same
    generalize upd H2 e (.tup []) = H3 at s3 de
    have s03 := s02.trans s3
    refine ⟨q', e, lp, rfl, rfl, sqT_same hq s03, SqT.of de, _, rfl, ?_⟩
    refine ifF ri.ne ?_
    have e13 := (s2.trans s3) _ _ e1
    refine ⟨_, rfl, _, rfl, 1, rfl, a1, _, _, _, rfl, rfl, SqL.of e13, trail_last ri.go, _, rfl, wa, q', tr, u, u, lp, rfl, ht.same s03, sqT_same hq s03, ri.back, by omega, fun H4 a4 s4 e4 => ?_⟩
    have s04 := s03.trans s4
    refine ⟨_, rfl, rfl, _, rfl, ?_⟩
    refine ⟨_, rfl, 1, rfl, a4, _, _, _, rfl, rfl, SqL.of e4, trail_last ri.back, _, rfl, 1, rfl, a1, _, _, _, rfl, rfl, SqL.of (s4 _ _ e13), trail_last ri.go, rfl, _, rfl, ?_⟩
    refine ifT rfl ?_
    refine ⟨_, rfl, _, rfl, wa, q', tr, lp, rfl, ht.same s04, ok.mw, sqT_same hq s04, wk_within ri.back, big (by omega), fun H5 s5 => ?_⟩
    have pos := ri.pos
    refine ⟨_, rfl, _, _, rfl, rfl, .inr (by rcases hsg with rfl | rfl <;> decide), _, _, rfl, rfl, ?_⟩
    refine Qt (Q := Q) ?_ (q _ (s04.trans s5))
    rw [Int.mul_comm]
    exact pos
def N_law_is_between : List Str := ["_law_w", "_law_rows", "_law_low", "_law_high", "_law_state", "_law_word", "_law_near", "_law_sign", "_law_far", "_law_row", "_law_number"]
theorem sc_law_is_between : FnScope N_law_is_between ["_law_w", "_law_rows"] (defScope s_law_is_between) := ⟨rfl, rfl, rfl, by decide +kernel, rfl, by decide +kernel, by decide +kernel⟩
theorem eqv_lst (ns : List Int) : PyData.eqv (.list (ns.map PyData.int)) (.list (ns.map PyData.int)) = true := SeqAt.eqv_refl _ (SeqAt.canLay_of_shaped (shaped_list ns))
theorem dpE {H : Hp} {a : Addr} (h : H a = some (.lst [])) : Dp K H (.ref a) (.list []) := .lst (SqL.of h) .nil
def sp_law_is_between (K : PySem.W.Frag) : Sp := fun vs H Q _ => ∃ (wa p : Addr) (tr : Tr) (rv : List V) (lo hi : Int → Int), vs = [.ref wa, .ref p] ∧ WTr K H wa tr ∧ TrOk tr ∧ tr.es.length ≤ 9 ∧ Usf tr.bs tr.ms tr.es tr.us ∧ SqT K H p rv ∧ Rw nums K H rv (tr.us.map (row3 lo hi)) ∧ Bet tr lo hi ∧ ∀ H', Same H H' → Q (.bl true) H'
theorem FunD'.has {us : List Int} {f : Int → Int} {H : Hp} {d : Addr} {D : List (Key × V)} (e : H d = some (.dK D)) {s : Int} : DGet H d (kV (.inl s)) (valV D (.inl s)) := DGet.k (k := Sum.inl s) e
theorem C_law_is_between (c : Cn K mg) : Cal P w K mg base 3 "_law_is_between" (sp_law_is_between K) [] := by
  refine mkCal (F_law_is_between c) (g_law_is_between c) sc_law_is_between (fun _ _ _ _ _ _ us hl => match us, hl with | [_, _], _ => rfl) (fun vs H Q E h => ?_) (fun cdv A outer s H vs Q E hr h => ?_)
  · obtain ⟨t, p, tr, rv, lo, hi, rfl, _⟩ := h
    rfl
  · obtain ⟨wa, p, tr, rv, lo, hi, rfl, ht, ok, le, usf, hp, hw, bt, q⟩ := h
    have hu := hu_of hr
    have us9 := ok.ln.2.2
    have rvl : rv.length = tr.us.length := by rw [hw.1, List.length_map]
    have rowAt : ∀ {H' : Hp} {i : Nat} {x : V}, Same H H' → rv[i]? = some x → ∃ s a, tr.us[i]? = some s ∧ x = .ref a ∧ SqT K H' a (nums (row3 lo hi s)) ∧ i ≤ 9 := fun {H' i x} s hi => by
      obtain ⟨r, a, h1, h2, h3⟩ := hw.get hi
      rw [List.getElem?_map] at h1
      obtain ⟨s0, h4, h5⟩ := Option.map_eq_some_iff.mp h1
      subst h5
      have := (List.getElem?_eq_some_iff.mp hi).1
      exact ⟨s0, a, h4, h2, sqT_same h3 s, by omega⟩
    refine ⟨_, (pss_cons (ps_if (PW.pt (pw_or (pt_not (pt_val (pe_callB (isi K) (by rfl) (m_isinstance c) (by decide +kernel) (pa_cons (pv 1) (pa_cons (pe_bltn (v := .ty "tuple") (by rfl) (m_tuple c) (by decide +kernel) rfl) pa_nil))))) (pw_or1 (pt_cmpR (neD K hr.units) (pe_lc (own := [("_law_row", 9)]) rfl sc_law_is_between.nd (piT K (pv 1)) (blkOk_by (own := [("_law_row", 9)]) (N := N_law_is_between) (sc := defScope s_law_is_between) (by decide +kernel)) (fun _ _ _ _ _ => (pg_name (i := 9) sc_law_is_between.nd rfl (.inl rfl))) (fun _ _ _ _ _ => pts_one (PW.pt (pw_or (pt_not (pt_val (pe_callB (isi K) (by rfl) (m_isinstance c) (by decide +kernel) (pa_cons (pv 9) (pa_cons (pe_bltn (v := .ty "tuple") (by rfl) (m_tuple c) (by decide +kernel) rfl) pa_nil))))) (pw_or1 (pt_cmpR op_ne (pe_callB (lenS K) (by rfl) (m_len c) (by decide +kernel) (pa_cons (pv 9) pa_nil)) pe_int (nomark _)))))) (fun _ _ _ _ _ => (pv 9))) (pe_lst pa_nil) (nomark _)))))
        (pss_one (ps_ret pe_bl))
        pss_nil)
      (pss_cons (ps_if (pt_cmpR (neD K hr.units) (pe_lc (own := [("_law_row", 9)]) rfl sc_law_is_between.nd (piT K (pv 1)) (blkOk_by (own := [("_law_row", 9)]) (N := N_law_is_between) (sc := defScope s_law_is_between) (by decide +kernel)) (fun _ _ _ _ _ => (pg_name (i := 9) sc_law_is_between.nd rfl (.inl rfl))) (fun _ _ _ _ _ => pts_one (pt_cmpR (neD K hr.units) (pe_lc (own := [("_law_number", 10)]) rfl sc_law_is_between.nd (piT K (pv 9)) (blkNF (own := [("_law_number", 10)]) (N := N_law_is_between) (by decide +kernel)) (fun _ _ _ _ _ => (pg_name (i := 10) sc_law_is_between.nd rfl (.inl rfl))) (fun _ _ _ _ _ => pts_one (pt_not (pt_val (pe_c (C_law_is_whole c) hr (by decide) rfl (pa_cons (pv 10) pa_nil))))) (fun _ _ _ _ _ => pe_int)) (pe_lst pa_nil) (nomark _))) (fun _ _ _ _ _ => (pv 9))) (pe_lst pa_nil) (nomark _))
        (pss_one (ps_ret pe_bl))
        pss_nil)
      (pss_cons (ps_if (pt_cmpR (neD K hr.units) (pe_lc (own := [("_law_row", 9)]) rfl sc_law_is_between.nd (piT K (pv 1)) (blkOk_by (own := [("_law_row", 9)]) (N := N_law_is_between) (sc := defScope s_law_is_between) (by decide +kernel)) (fun _ _ _ _ _ => (pg_name (i := 9) sc_law_is_between.nd rfl (.inl rfl))) (fun _ _ _ _ _ => pts_nil) (fun _ _ _ _ _ => (pe_ix (ixT K) (pv 9) pe_int (fun _ _ => rfl)))) (pe_c (C_law_alive c) hr (by decide) rfl (pa_cons (pv 0) pa_nil)) (nomark _))
        (pss_one (ps_ret pe_bl))
        pss_nil)
      (pss_cons (ps_par (i := 2) (j := 3) rfl sc_law_is_between.nd rfl rfl (by decide) rfl rfl (pa_cons (pe_callTy (call_dictP rfl) (by rfl) (m_dict c) (by decide +kernel) (pa_cons (pe_lc (own := [("_law_row", 9)]) rfl sc_law_is_between.nd (piT K (pv 1)) (blkOk_by (own := [("_law_row", 9)]) (N := N_law_is_between) (sc := defScope s_law_is_between) (by decide +kernel)) (fun _ _ _ _ _ => (pg_name (i := 9) sc_law_is_between.nd rfl (.inl rfl))) (fun _ _ _ _ _ => pts_nil) (fun _ _ _ _ _ => (pe_tup (pa_cons (pe_ix (ixT K) (pv 9) pe_int (fun _ _ => rfl)) (pa_cons (pe_ix (ixT K) (pv 9) pe_int (fun _ _ => rfl)) pa_nil))))) pa_nil)) (pa_cons (pe_callTy (call_dictP rfl) (by rfl) (m_dict c) (by decide +kernel) (pa_cons (pe_lc (own := [("_law_row", 9)]) rfl sc_law_is_between.nd (piT K (pv 1)) (blkOk_by (own := [("_law_row", 9)]) (N := N_law_is_between) (sc := defScope s_law_is_between) (by decide +kernel)) (fun _ _ _ _ _ => (pg_name (i := 9) sc_law_is_between.nd rfl (.inl rfl))) (fun _ _ _ _ _ => pts_nil) (fun _ _ _ _ _ => (pe_tup (pa_cons (pe_ix (ixT K) (pv 9) pe_int (fun _ _ => rfl)) (pa_cons (pe_ix (ixT K) (pv 9) pe_int (fun _ _ => rfl)) pa_nil))))) pa_nil)) pa_nil)) (by rfl))
      (pss_cons (ps_for PassesOwn.never rfl (piL K (pe_dget hu (pv 0) pe_str (fun _ _ => rfl))) (pgT K (n := 2) rfl (pgs_cons (pg_name (i := 4) sc_law_is_between.nd rfl (.inl rfl)) (pgs_cons (pg_name (i := 5) sc_law_is_between.nd rfl (.inl rfl)) pgs_nil)))
        (pss_one (ps_if (PW.pt (pw_and (pt_cmp (pc_din hu (pv 4) (pv 2))) (pw_and1 (pt_not (pt_chain op_le op_le (pe_dget hu (pv 2) (pv 4) (fun _ _ => rfl)) (pe_callB call_len_str (by rfl) (m_len c) (by decide +kernel) (pa_cons (pv 5) pa_nil)) (pe_dget hu (pv 3) (pv 4) (fun _ _ => rfl)))))))
          (pss_one (ps_ret pe_bl))
          pss_nil)))
      (pss_cons (ps_for PassesOwn.never rfl (piL K (pe_dget hu (pv 0) pe_str (fun _ _ => rfl))) (pgT K (n := 4) rfl (pgs_cons (pg_name (i := 6) sc_law_is_between.nd rfl (.inl rfl)) (pgs_cons (pg_name (i := 7) sc_law_is_between.nd rfl (.inl rfl)) (pgs_cons (pg_name (i := 5) sc_law_is_between.nd rfl (.inl rfl)) (pgs_cons (pg_name (i := 8) sc_law_is_between.nd rfl (.inl rfl)) pgs_nil)))))
        (pss_one (ps_if (PW.pt (pw_and (pt_cmp (pc_din hu (pv 6) (pv 2))) (pw_and1 (pt_cmp (pc_din hu (pv 8) (pv 2))))))
          (pss_one (ps_if (PW.pt (pw_or (pt_cmpR op_gt (pe_dget hu (pv 2) (pv 8) (fun _ _ => rfl)) (pe_op op_sub (pe_op op_add (pe_dget hu (pv 2) (pv 6) (fun _ _ => rfl)) (pe_callB call_len_str (by rfl) (m_len c) (by decide +kernel) (pa_cons (pv 5) pa_nil))) pe_int) (nomark _)) (pw_or1 (pt_cmpR op_lt (pe_dget hu (pv 3) (pv 8) (fun _ _ => rfl)) (pe_op op_sub (pe_op op_add (pe_dget hu (pv 3) (pv 6) (fun _ _ => rfl)) (pe_callB call_len_str (by rfl) (m_len c) (by decide +kernel) (pa_cons (pv 5) pa_nil))) pe_int) (nomark _)))))
            (pss_one (ps_ret pe_bl))
            pss_nil))
          pss_nil)))
      (pss_one (ps_ret pe_bl)))))))), ?_⟩
    refine ⟨_, rfl, _, _, _, _, true, rfl, .ty _, tyT hp, kit_ty (by decide +kernel), _, rfl, ?_⟩
    -- no row is odd
    refine ⟨_, rfl, p, rfl, ⟨_, hp⟩, fun D hD => lc_tup (K := K) (a := p) (xs := rv) (fun i H' => Same H H' ∧ H D = none ∧ H' D = some (.lst [])) ⟨same_new hD, hD, upd_same⟩ (fun i H' _ h => sqT_same hp h.1) ?_ ?_⟩
    · rintro i x H1 hx ⟨s1, d1, d2⟩
      obtain ⟨s0, a, _, rfl, hrow, i9⟩ := rowAt s1 hx
      refine ⟨rfl, ?_⟩
      refine ⟨_, rfl, _, _, _, _, true, rfl, .ty _, tyT hrow, kit_ty (by decide +kernel), _, rfl, ?_⟩
      refine ⟨_, rfl, _, _, rfl, .inr hrow, rfl, _, rfl, ?_⟩
      exact ⟨s1, d1, d2⟩
    rintro H1 ⟨s1, d1, d2⟩
    refine ⟨Nat.zero_le _, fun e he => ?_⟩
    have s2 := same_new (o := .lst []) he
    have de : upd H1 e (.lst []) e = some (.lst []) := upd_same
    have dD := s2 _ _ d2
    generalize upd H1 e (.lst []) = H2 at s2 de dD
    have s02 := s1.trans s2
    refine ⟨.list [], .list [], dpE dD, dpE de, shaped_list [], shaped_list [], _, rfl, ?_⟩
    clear d1 d2 dD de he hD s1 s2
    -- no number is odd
    refine ⟨_, rfl, p, rfl, ⟨_, sqT_same hp s02⟩, fun D hD => lc_tup (K := K) (a := p) (xs := rv) (fun i H' => Same H2 H' ∧ H2 D = none ∧ H' D = some (.lst [])) ⟨same_new hD, hD, upd_same⟩ (fun i H' _ h => sqT_same hp (s02.trans h.1)) ?_ ?_⟩
    · rintro i x H3 hx ⟨s3, d1, d2⟩
      obtain ⟨s0, a, _, rfl, hrow, i9⟩ := rowAt (s02.trans s3) hx
      refine ⟨rfl, ?_⟩
      refine ⟨_, rfl, a, rfl, ⟨_, hrow⟩, fun B hB => lc_tup (K := K) (a := a) (xs := nums (row3 lo hi s0)) (fun j H' => Same H3 H' ∧ H3 B = none ∧ H' B = some (.lst [])) ⟨same_new hB, hB, upd_same⟩ (fun j H' _ h => sqT_same hrow h.1) ?_ ?_⟩
      · rintro j y H4 hy ⟨s4, b1, b2⟩
        obtain ⟨n, rfl, _⟩ := nums_get hy
        refine ⟨rfl, ?_⟩
        refine ⟨_, rfl, n, rfl, _, rfl, ?_⟩
        exact ⟨s4, b1, b2⟩
      · rintro H4 ⟨s4, b1, b2⟩
        refine ⟨Nat.zero_le _, fun e he => ?_⟩
        have s5 := same_new (o := .lst []) he
        refine ⟨.list [], .list [], dpE (s5 _ _ b2), dpE upd_same, shaped_list [], shaped_list [], _, rfl, ?_⟩
        exact ⟨(s3.trans s4).trans s5, d1, s5 _ _ (s4 _ _ d2)⟩
    rintro H3 ⟨s3, d1, d2⟩
    refine ⟨Nat.zero_le _, fun e he => ?_⟩
    have s4 := same_new (o := .lst []) he
    have de : upd H3 e (.lst []) e = some (.lst []) := upd_same
    have dD := s4 _ _ d2
    generalize upd H3 e (.lst []) = H4 at s4 de dD
    have s04 := (s02.trans s3).trans s4
    refine ⟨.list [], .list [], dpE dD, dpE de, shaped_list [], shaped_list [], _, rfl, ?_⟩
    clear d1 d2 dD de he hD s3 s4 s02
    -- the states
    refine ⟨_, rfl, p, rfl, ⟨_, sqT_same hp s04⟩, fun D hD => lc_tup (K := K) (a := p) (xs := rv) (fun i H' => Same H4 H' ∧ H4 D = none ∧ H' D = some (.lst (nums (tr.us.take i)))) ⟨same_new hD, hD, upd_same⟩ (fun i H' _ h => sqT_same hp (s04.trans h.1)) ?_ ?_⟩
    · rintro i x H5 hx ⟨s5, d1, d2⟩
      obtain ⟨s0, a, e0, rfl, hrow, i9⟩ := rowAt (s04.trans s5) hx
      refine ⟨rfl, ?_⟩
      refine ⟨_, rfl, _, _, _, _, rfl, rfl, hrow, rfl, ?_⟩
      refine ⟨_, d2, big (by rw [nums_len, List.length_take]; omega), Same.wr s5 d1, d1, ?_⟩
      have et : tr.us.take (i + 1) = tr.us.take i ++ [s0] := by rw [List.take_add_one, e0]; rfl
      rw [upd_same, et, ← nums_snoc]
    rintro H5 ⟨s5, d1, d2⟩
    rw [rvl, List.take_length] at d2
    have s05 := s04.trans s5
    refine ⟨_, rfl, wa, tr.n, tr.bs, tr.ms, tr.es, rfl, ht.same s05, ok.ln.1, ok.ln.2.1, le, fun H6 a2 us2 s6 e2 usf2 _ => ?_⟩
    have eus := usf_unique usf usf2
    subst eus
    refine ⟨_, _, dpL (SqL.of (s6 _ _ d2)), dpL (SqL.of e2), shaped_list _, shaped_list _, ?_⟩
    rw [eqv_lst]
    refine ⟨_, rfl, ?_⟩
    have s06 := s05.trans s6
    refine ⟨_, rfl, p, rfl, ⟨_, sqT_same hp s06⟩, fun DD1 hDD1 => lc_tup (K := K) (a := p) (xs := rv) (fun i H' => Same H6 H' ∧ H6 DD1 = none ∧ ∃ ps1 : List Addr, H' DD1 = some (.lst (ps1.map V.ref)) ∧ ps1.length = i ∧ Paired (fun (p : Addr) (kv : Key × V) => SqT K H' p [kV kv.1, kv.2]) ps1 ((tr.us.take i).map fun s => ((.inl s : Key), V.int (lo s))))
      ⟨same_new hDD1, hDD1, [], upd_same, rfl, .nil⟩ (fun i H' _ h => sqT_same hp (s06.trans h.1)) ?_ ?_⟩
    · rintro i x HH1 hx ⟨s1, dd1, ps1, d2, dl1, pr⟩
      obtain ⟨z, a, ez, rfl, hrow, i9⟩ := rowAt (s06.trans s1) hx
      refine ⟨rfl, ?_⟩
      refine ⟨_, rfl, _, _, _, _, rfl, rfl, hrow, rfl, _, rfl, _, _, _, _, rfl, rfl, hrow, rfl, (by show 2 ≤ sizeLine; decide), fun y hy => ?_⟩
      have sy := same_new (o := .tup [.int z, .int (lo z)]) hy
      have d3 := sy _ _ d2
      have d4 : upd HH1 y (.tup [.int z, .int (lo z)]) y = some (.tup [.int z, .int (lo z)]) := upd_same
      refine ⟨_, d3, big (by rw [List.length_map]; omega), Same.wr (s1.trans sy) dd1, dd1, ps1 ++ [y], by rw [upd_same, List.map_append]; rfl, by simp [dl1], ?_⟩
      have et : tr.us.take (i + 1) = tr.us.take i ++ [z] := by rw [List.take_add_one, ez]; rfl
      rw [et, List.map_append]
      have im := (Im.same sy).trans (im_lst (o := .lst (ps1.map V.ref ++ [V.ref y])) d3)
      exact pairApp (pairImp (fun p kv h => im.sq h) pr) (.cons ((im_lst d3).sq (SqT.of d4)) .nil)
    rintro HH1 ⟨s1, dd1, ps1, d2, dl1, pr⟩
    rw [rvl, List.take_length] at pr
    refine ⟨DD1, ps1, _, rfl, SqL.of d2, pr, fun dx hd1 => ?_⟩
    have fx : ∃ DD1, (upd HH1 dx (.dK (mergeK [] (tr.us.map fun s => ((.inl s : Key), V.int (lo s)))))) dx = some (.dK DD1) ∧ ∀ s, valV DD1 (.inl s) = if s ∈ tr.us then some (.int (lo s)) else none := ⟨_, upd_same, fun s => merge_fun _ _ [] s⟩
    have sx := (s06.trans s1).trans (same_new (o := .dK (mergeK [] (tr.us.map fun s => ((.inl s : Key), V.int (lo s))))) hd1)
    have sa1 := s1.trans (same_new (o := .dK (mergeK [] (tr.us.map fun s => ((.inl s : Key), V.int (lo s))))) hd1)
    generalize upd HH1 dx (.dK (mergeK [] (tr.us.map fun s => ((.inl s : Key), V.int (lo s))))) = Hx at fx sx sa1
    clear pr d2 s1
    refine ⟨_, rfl, p, rfl, ⟨_, sqT_same hp sx⟩, fun DD2 hDD2 => lc_tup (K := K) (a := p) (xs := rv) (fun i H' => Same Hx H' ∧ Hx DD2 = none ∧ ∃ ps2 : List Addr, H' DD2 = some (.lst (ps2.map V.ref)) ∧ ps2.length = i ∧ Paired (fun (p : Addr) (kv : Key × V) => SqT K H' p [kV kv.1, kv.2]) ps2 ((tr.us.take i).map fun s => ((.inl s : Key), V.int (hi s))))
      ⟨same_new hDD2, hDD2, [], upd_same, rfl, .nil⟩ (fun i H' _ h => sqT_same hp (sx.trans h.1)) ?_ ?_⟩
    · rintro i x HH2 hx ⟨s1, dd2, ps2, d2, dl2, pr⟩
      obtain ⟨z, a, ez, rfl, hrow, i9⟩ := rowAt (sx.trans s1) hx
      refine ⟨rfl, ?_⟩
      refine ⟨_, rfl, _, _, _, _, rfl, rfl, hrow, rfl, _, rfl, _, _, _, _, rfl, rfl, hrow, rfl, (by show 2 ≤ sizeLine; decide), fun y hy => ?_⟩
      have sy := same_new (o := .tup [.int z, .int (hi z)]) hy
      have d3 := sy _ _ d2
      have d4 : upd HH2 y (.tup [.int z, .int (hi z)]) y = some (.tup [.int z, .int (hi z)]) := upd_same
      refine ⟨_, d3, big (by rw [List.length_map]; omega), Same.wr (s1.trans sy) dd2, dd2, ps2 ++ [y], by rw [upd_same, List.map_append]; rfl, by simp [dl2], ?_⟩
      have et : tr.us.take (i + 1) = tr.us.take i ++ [z] := by rw [List.take_add_one, ez]; rfl
      rw [et, List.map_append]
      have im := (Im.same sy).trans (im_lst (o := .lst (ps2.map V.ref ++ [V.ref y])) d3)
      exact pairApp (pairImp (fun p kv h => im.sq h) pr) (.cons ((im_lst d3).sq (SqT.of d4)) .nil)
    rintro HH2 ⟨s1, dd2, ps2, d2, dl2, pr⟩
    rw [rvl, List.take_length] at pr
    refine ⟨DD2, ps2, _, rfl, SqL.of d2, pr, fun dy hd2 => ?_⟩
    have fy : ∃ DD2, (upd HH2 dy (.dK (mergeK [] (tr.us.map fun s => ((.inl s : Key), V.int (hi s)))))) dy = some (.dK DD2) ∧ ∀ s, valV DD2 (.inl s) = if s ∈ tr.us then some (.int (hi s)) else none := ⟨_, upd_same, fun s => merge_fun _ _ [] s⟩
    have sy1 := (sx.trans s1).trans (same_new (o := .dK (mergeK [] (tr.us.map fun s => ((.inl s : Key), V.int (hi s))))) hd2)
    have sa2 := s1.trans (same_new (o := .dK (mergeK [] (tr.us.map fun s => ((.inl s : Key), V.int (hi s))))) hd2)
    generalize upd HH2 dy (.dK (mergeK [] (tr.us.map fun s => ((.inl s : Key), V.int (hi s))))) = Hy at fy sy1 sa2
    clear pr d2 s1
    refine ⟨_, _, rfl, ?_⟩
    obtain ⟨D1, fx1, fx2⟩ := fx
    obtain ⟨D2, fy1, fy2⟩ := fy
    have fx1 := sa2 _ _ fx1
    have getX : ∀ s, DGet Hy dx (kV (.inl s)) (if s ∈ tr.us then some (.int (lo s)) else none) := fun s => by
      have g := DGet.k (k := Sum.inl s) fx1
      rw [fx2 s] at g
      exact g
    have getX' : ∀ s, s ∈ tr.us → DGet Hy dx (kV (.inl s)) (some (.int (lo s))) := fun s hs => by
      have g := getX s
      rw [if_pos hs] at g
      exact g
    have getY' : ∀ s, s ∈ tr.us → DGet Hy dy (kV (.inl s)) (some (.int (hi s))) := fun s hs => by
      have g := DGet.k (k := Sum.inl s) fy1
      rw [fy2 s, if_pos hs] at g
      exact g
    obtain ⟨i1, y, o, iv, yv, ov, e1, e2', e3, e4, r1, r2, r3⟩ := ht.same sy1
    refine ⟨_, rfl, wa, _, rfl, wget_in e1, i1, rfl, ⟨_, SqL.of e2'⟩, for_list (K := K) (a := i1) (xs := iv) (fun j σ H' => H' = Hy ∧ ∃ x4 x5 x6 x7 x8 x9 x10, σ = [some (.ref wa), some (.ref p), some (.ref dx), some (.ref dy), x4, x5, x6, x7, x8, x9, x10])
      ⟨rfl, _, _, _, _, _, _, _, rfl⟩ (fun i σ H' _ h => h.1 ▸ SqL.of e2') ?_ ?_⟩
    · rintro j x σ H7 hj ⟨rfl, x4, x5, x6, x7, x8, x9, x10, rfl⟩
      obtain ⟨g, a, hg, rfl, hrow⟩ := r1.get hj
      refine ⟨a, _, rfl, hrow, rfl, _, _, rfl, _, _, rfl, rfl, ?_⟩
      refine ⟨_, rfl, _, rfl, dx, _, rfl, getX g.s, _, rfl, ?_⟩
      by_cases hs : g.s ∈ tr.us
      · rw [if_pos hs]
        obtain ⟨b1, b2⟩ := bt.bg g (List.mem_of_getElem? hg) hs
        refine ⟨_, rfl, _, rfl, dx, _, rfl, getX' _ hs, _, rfl, _, rfl, short (ok.bw g (List.mem_of_getElem? hg)), _, _, rfl, rfl, _, rfl, ?_⟩
        refine ifT b1 ?_
        refine ⟨_, rfl, _, rfl, dy, _, rfl, getY' _ hs, _, _, rfl, rfl, _, rfl, ?_⟩
        refine ifNT b2 ?_
        exact ⟨rfl, _, _, _, _, _, _, _, rfl⟩
      · rw [if_neg hs]
        exact ⟨rfl, _, _, _, _, _, _, _, rfl⟩
    rintro σ H7 ⟨rfl, x4, x5, x6, x7, x8, x9, x10, rfl⟩
    refine ⟨_, rfl, wa, _, rfl, wget_ways e1, y, rfl, ⟨_, SqL.of e3⟩, for_list (K := K) (a := y) (xs := yv) (fun j σ H' => H' = H7 ∧ ∃ x4 x5 x6 x7 x8 x9 x10, σ = [some (.ref wa), some (.ref p), some (.ref dx), some (.ref dy), x4, x5, x6, x7, x8, x9, x10])
      ⟨rfl, _, _, _, _, _, _, _, rfl⟩ (fun i σ H' _ h => h.1 ▸ SqL.of e3) ?_ ?_⟩
    · rintro j x σ H8 hj ⟨rfl, x4, x5, x6, x7, x8, x9, x10, rfl⟩
      obtain ⟨m, a, hm, rfl, hrow⟩ := r2.get hj
      have w9 := short (ok.mw m (List.mem_of_getElem? hm))
      refine ⟨a, _, rfl, hrow, rfl, _, _, rfl, _, _, rfl, _, _, rfl, _, _, rfl, rfl, ?_⟩
      refine ⟨_, rfl, _, rfl, dx, _, rfl, getX m.s, _, rfl, ?_⟩
      by_cases hs : m.s ∈ tr.us
      · rw [if_pos hs]
        refine ⟨_, rfl, _, rfl, dx, _, rfl, getX m.t, _, rfl, ?_⟩
        by_cases htt : m.t ∈ tr.us
        · rw [if_pos htt]
          obtain ⟨b1, b2⟩ := bt.mv m (List.mem_of_getElem? hm) hs htt
          refine ⟨_, rfl, _, rfl, dx, _, rfl, getX' _ htt, _, rfl, _, rfl, dx, _, rfl, getX' _ hs, _, rfl, _, rfl, w9, _, _, rfl, rfl, _, _, rfl, rfl, _, _, rfl, rfl, _, rfl, ?_⟩
          refine ifF (by omega) ?_
          refine ⟨_, rfl, _, rfl, dy, _, rfl, getY' _ htt, _, rfl, _, rfl, dy, _, rfl, getY' _ hs, _, rfl, _, rfl, w9, _, _, rfl, rfl, _, _, rfl, rfl, _, _, rfl, rfl, _, rfl, ?_⟩
          refine ifF (by omega) ?_
          exact ⟨rfl, _, _, _, _, _, _, _, rfl⟩
        · rw [if_neg htt]
          exact ⟨rfl, _, _, _, _, _, _, _, rfl⟩
      · rw [if_neg hs]
        exact ⟨rfl, _, _, _, _, _, _, _, rfl⟩
    · rintro σ H8 ⟨rfl, _⟩
      exact q _ sy1
def N_law_is_pace : List Str := ["_law_w", "_law_it"]
theorem sc_law_is_pace : FnScope N_law_is_pace ["_law_w", "_law_it"] (defScope s_law_is_pace) := ⟨rfl, rfl, rfl, by decide +kernel, rfl, by decide +kernel, by decide +kernel⟩
def sp_law_is_pace (K : PySem.W.Frag) : Sp := fun vs H Q _ => ∃ (wa a : Addr) (tr : Tr), vs = [.ref wa, .ref a] ∧ WTr K H wa tr ∧ TrOk tr ∧ tr.es.length ≤ 9 ∧ Usf tr.bs tr.ms tr.es tr.us ∧ (∀ H', Same H H' → Q (.bl true) H') ∧
  ((∃ r q b pre lp g u sg, SqT K H a [.str (sortOf sg), .ref r, .ref q] ∧ RunAt K H r b pre ∧ SqT K H q (nums lp) ∧ Rising tr sg b pre lp g u ∧ (sg = 1 ∨ sg = -1)) ∨
   (∃ p rv lo hi, SqT K H a [.str "between", .ref p] ∧ SqT K H p rv ∧ Rw nums K H rv (tr.us.map (row3 lo hi)) ∧ Bet tr lo hi))
theorem C_law_is_pace (c : Cn K mg) : Cal P w K mg base 4 "_law_is_pace" (sp_law_is_pace K) [] := by
  refine mkCal (F_law_is_pace c) (g_law_is_pace c) sc_law_is_pace (fun _ _ _ _ _ _ us hl => match us, hl with | [_, _], _ => rfl) (fun vs H Q E h => ?_) (fun cdv A outer s H vs Q E hr h => ?_)
  · obtain ⟨t, a, tr, rfl, _⟩ := h
    rfl
  · obtain ⟨wa, a, tr, rfl, ht, ok, le, usf, q, hh⟩ := h
    refine ⟨_, (pss_cons (ps_if (PW.pt (pw_or (pt_not (pt_val (pe_callB (isi K) (by rfl) (m_isinstance c) (by decide +kernel) (pa_cons (pv 1) (pa_cons (pe_bltn (v := .ty "tuple") (by rfl) (m_tuple c) (by decide +kernel) rfl) pa_nil))))) (pw_or (pt_cmpR (eqD K hr.units) (pv 1) (pe_tup pa_nil) (nomark _)) (pw_or1 (pt_not (pt_val (pe_callB (isi K) (by rfl) (m_isinstance c) (by decide +kernel) (pa_cons (pe_ix (ixT K) (pv 1) pe_int (fun _ _ => rfl)) (pa_cons (pe_bltn (v := .ty "str") (by rfl) (m_str c) (by decide +kernel) rfl) pa_nil)))))))))
        (pss_one (ps_ret pe_bl))
        pss_nil)
      (pss_cons (ps_if (pt_cmpR op_eq (pe_ix (ixT K) (pv 1) pe_int (fun _ _ => rfl)) pe_str (nomark _))
        (pss_one (ps_ret (pe_and (pe_cmpR op_eq (pe_callB (lenS K) (by rfl) (m_len c) (by decide +kernel) (pa_cons (pv 1) pa_nil)) pe_int (nomark _)) (pe_one (pe_c (C_law_is_between c) hr (by decide) rfl (pa_cons (pv 0) (pa_cons (pe_ix (ixT K) (pv 1) pe_int (fun _ _ => rfl)) pa_nil)))))))
        pss_nil)
      (pss_cons (ps_if (PW.pt (pw_or (pt_cmpR (opNotIn K) (pe_ix (ixT K) (pv 1) pe_int (fun _ _ => rfl)) (pe_tup (pa_cons pe_str (pa_cons pe_str pa_nil))) (by rfl)) (pw_or1 (pt_cmpR op_ne (pe_callB (lenS K) (by rfl) (m_len c) (by decide +kernel) (pa_cons (pv 1) pa_nil)) pe_int (nomark _)))))
        (pss_one (ps_ret pe_bl))
        pss_nil)
      (pss_one (ps_ret (pe_c (C_law_is_ring c) hr (by decide) rfl (pa_cons (pv 0) (pa_cons (pe_ix (ixT K) (pv 1) pe_int (fun _ _ => rfl)) (pa_cons (pe_ix (ixT K) (pv 1) pe_int (fun _ _ => rfl)) (pa_cons (pe_ifExp (pt_cmpR op_eq (pe_ix (ixT K) (pv 1) pe_int (fun _ _ => rfl)) pe_str (nomark _)) pe_int (pe_un un_neg pe_int)) pa_nil)))))))))), ?_⟩
    rcases hh with ⟨r, q', b, pre, lp, g, u, sg, h1, h2, h3, ri, hsg⟩ | ⟨p, rv, lo, hi, h1, h2, h3, bt⟩
    · refine ⟨_, rfl, _, _, _, _, true, rfl, .ty _, tyT h1, kit_ty (by decide +kernel), _, rfl, ?_⟩
      refine ⟨_, rfl, Nat.zero_le _, fun e he => ?_⟩
      have s1 := same_new (o := .tup []) he
      have de : upd H e (.tup []) e = some (.tup []) := upd_same
      generalize upd H e (.tup []) = H1 at s1 de
      have a1 := sqT_same h1 s1
      have a2 := h2.im (Im.same s1)
      have a3 := sqT_same h3 s1
      have hz : sortOf sg = "rises" ∨ sortOf sg = "falls" := by rcases hsg with rfl | rfl; exact .inl rfl; exact .inr rfl
      refine ⟨_, .tuple [], dpRise a1 a2 a3, .tup (SqT.of de) .nil, shaped_rise hz b pre lp, shaped_nums [], _, rfl, ?_⟩
      refine ⟨_, rfl, _, _, _, _, rfl, rfl, a1, rfl, _, _, _, _, true, rfl, .ty _, .base (.str _), kit_ty (by decide +kernel), _, rfl, ?_⟩
      refine ⟨_, rfl, _, _, _, _, rfl, rfl, a1, rfl, rfl, _, rfl, ?_⟩
      refine ifF (by rcases hsg with rfl | rfl <;> decide) ?_
      refine ⟨_, rfl, _, _, _, _, rfl, rfl, a1, rfl, (by show 2 ≤ sizeLine; decide), fun y hy => ?_⟩
      have s2 := same_new (o := .tup [.str "rises", .str "falls"]) hy
      have dy : upd H1 y (.tup [.str "rises", .str "falls"]) y = some (.tup [.str "rises", .str "falls"]) := upd_same
      generalize upd H1 y (.tup [.str "rises", .str "falls"]) = H2 at s2 dy
      have b1 := sqT_same a1 s2
      have b2 := a2.im (Im.same s2)
      have b3 := sqT_same a3 s2
      have s02 := s1.trans s2
      refine ⟨y, _, rfl, .inr (SqT.of dy), rfl, rfl, false, (by rcases hsg with rfl | rfl <;> rfl), ?_⟩
      refine ⟨_, rfl, _, _, rfl, .inr b1, rfl, _, rfl, ?_⟩
      refine ⟨_, rfl, _, rfl, _, _, _, _, rfl, rfl, b1, rfl, _, rfl, _, _, _, _, rfl, rfl, b1, rfl, _, rfl, _, _, _, _, rfl, rfl, b1, rfl, rfl, _, rfl, ?_⟩
      have last : sp_law_is_ring K [.ref wa, .ref r, .ref q', .int sg] H2 Q C8.E0 := ⟨wa, r, q', tr, sg, b, pre, lp, g, u, rfl, ht.same s02, ok, le, usf, b2, b3, ri, hsg, fun H' s => q H' (s02.trans s)⟩
      rcases hsg with rfl | rfl
      · refine ifT (by rfl) ?_
        exact last
      · refine ifF (by decide) ?_
        exact ⟨_, rfl, last⟩
    · refine ⟨_, rfl, _, _, _, _, true, rfl, .ty _, tyT h1, kit_ty (by decide +kernel), _, rfl, ?_⟩
      refine ⟨_, rfl, Nat.zero_le _, fun e he => ?_⟩
      have s1 := same_new (o := .tup []) he
      have de : upd H e (.tup []) e = some (.tup []) := upd_same
      generalize upd H e (.tup []) = H1 at s1 de
      have a1 := sqT_same h1 s1
      have a2 := sqT_same h2 s1
      have a3 := (Im.same s1).rw h3
      refine ⟨_, .tuple [], dpBet a1 a2 a3, .tup (SqT.of de) .nil, shaped_bet _, shaped_nums [], _, rfl, ?_⟩
      refine ⟨_, rfl, _, _, _, _, rfl, rfl, a1, rfl, _, _, _, _, true, rfl, .ty _, .base (.str _), kit_ty (by decide +kernel), _, rfl, ?_⟩
      refine ⟨_, rfl, _, _, _, _, rfl, rfl, a1, rfl, rfl, _, rfl, ?_⟩
      refine ifT (by rfl) ?_
      refine ⟨_, rfl, _, _, rfl, .inr a1, rfl, _, rfl, ?_⟩
      exact ⟨_, rfl, _, rfl, _, _, _, _, rfl, rfl, a1, rfl, wa, p, tr, rv, lo, hi, rfl, ht.same s1, ok, le, usf, a2, a3, bt, fun H2 s2 => q _ (s1.trans s2)⟩
end
end K86
end
section
set_option maxHeartbeats 4000000
namespace K86
open PySem PySem.Spec PyProof.Rows L2
open C8 (Cal Met Mak pe_c pe_mk pe_mt pe_mt0)
/-! ### dicts of ints compared -/
def sameD (ks ls : List (Key × V)) : Bool := ks.all fun p => decide (valV ls p.1 = some p.2)
theorem hits_ints {A : Around} {s : Shared} {ls : List (Key × V)} {vb : List (Key × Value)} (rb : KV ls vb) (hb : ∀ p ∈ ls, ∃ i, p.2 = .int i) {ks : List (Key × V)} {va : List (Key × Value)} (ra : KV ks va) :
    (∀ p ∈ ks, ∃ i, p.2 = .int i) → PySem.W.KeqHits A s vb va (sameD ks ls) := by
  unfold KV at ra
  induction ra with
  | nil => intro _; exact .nil
  | @cons p q ps qs h t ih =>
    intro hp
    obtain ⟨h1, h2⟩ := h
    obtain ⟨i, ei⟩ := hp p List.mem_cons_self
    have ih' := ih fun p' hm => hp p' (List.mem_cons_of_mem _ hm)
    obtain ⟨k, v⟩ := q
    have h1' : p.1 = k := h1
    have h2' : RelV p.2 v := h2
    rw [ei] at h2'
    obtain ⟨ti, rfl⟩ := h2'
    have rv := rb.val p.1
    have esd : sameD (p :: ps) ls = (decide (valV ls p.1 = some p.2) && sameD ps ls) := by unfold sameD; rw [List.all_cons]
    rw [esd]
    cases ev : valV ls p.1 with
    | none =>
      rw [ev] at rv
      have hn : valueAt vb k = none := by
        rw [← h1']
        cases e : valueAt vb p.1 with
        | none => rfl
        | some y => rw [e] at rv; exact absurd rv (by intro z; cases z)
      have : decide ((none : Option V) = some p.2) = false := by simp
      rw [this, Bool.false_and]
      exact .miss hn
    | some y =>
      rw [ev] at rv
      obtain ⟨u, hu, ru⟩ := rv.some_of
      obtain ⟨j, ej⟩ : ∃ j, y = .int j := by
        have := mem_of_valV ev
        exact hb _ this
      subst ej
      obtain ⟨tj, rfl⟩ := ru
      obtain ⟨e, h3, h4⟩ := HT.eqAt_int A s i ti j tj
      have ee : decide (some (V.int j) = some p.2) = e := by
        rw [ei]
        cases e with
        | true => exact decide_eq_true (by rw [h4.mp rfl])
        | false =>
          refine decide_eq_false fun z => ?_
          injection z with z
          injection z with z
          have := h4.mpr z.symm
          cases this
      rw [ee]
      rw [h1'] at hu
      exact .hit hu h3 ih'
section
variable {X : Cx}
def rEqKI (neg : Bool) : R2 := fun x y H Q => ∃ a b ks ls, x = .ref a ∧ y = .ref b ∧ H a = some (.dK ks) ∧ H b = some (.dK ls) ∧ (∀ p ∈ ks, ∃ i, p.2 = .int i) ∧ (∀ p ∈ ls, ∃ i, p.2 = .int i) ∧ Q (.bl (if neg then !(ks.length == ls.length && sameD ks ls) else (ks.length == ls.length && sameD ks ls))) H
theorem eqKI (hu : X.A.units + 1 < cLine) : OpR X (compareOp .Eq) (rEqKI false) := by
  intro pins s σ H x y v u Q I rx ry h
  obtain ⟨a, b, ks, ls, rfl, rfl, ea, eb, h1, h2, q⟩ := h
  obtain rfl : v = Value.ref a := rx
  obtain rfl : u = Value.ref b := ry
  obtain ⟨_, ya, va, ra, da⟩ := (show ObjOk X.prog X.w H s.heap a (.dK ks) from I.hok a _ ea)
  obtain ⟨_, yb, vb, rb, db⟩ := (show ObjOk X.prog X.w H s.heap b (.dK ls) from I.hok b _ eb)
  exact PySem.W.keq_eq (knd := mixKind X.prog X.w) (r := sameD ks ls) ya yb da db (Nat.lt_of_succ_lt hu) (fun _ => hits_ints rb h2 ra h1) (fin_bl I q (by rw [ra.length, rb.length]; rfl))
theorem neKI (hu : X.A.units + 1 < cLine) : OpR X (compareOp .NotEq) (rEqKI true) := by
  intro pins s σ H x y v u Q I rx ry h
  obtain ⟨a, b, ks, ls, rfl, rfl, ea, eb, h1, h2, q⟩ := h
  obtain rfl : v = Value.ref a := rx
  obtain rfl : u = Value.ref b := ry
  obtain ⟨_, ya, va, ra, da⟩ := (show ObjOk X.prog X.w H s.heap a (.dK ks) from I.hok a _ ea)
  obtain ⟨_, yb, vb, rb, db⟩ := (show ObjOk X.prog X.w H s.heap b (.dK ls) from I.hok b _ eb)
  exact PySem.W.keq_ne (knd := mixKind X.prog X.w) (r := sameD ks ls) ya yb da db (Nat.lt_of_succ_lt hu) (fun _ => hits_ints rb h2 ra h1) (fin_bl I q (by rw [ra.length, rb.length]; rfl))
end
/-! ### list(range(n)) -/
theorem paired_mk {α β : Type} {F : α → β → Prop} : ∀ {xs : List α} {ys : List β}, xs.length = ys.length → (∀ (i : Nat) (x : α) (y : β), xs[i]? = some x → ys[i]? = some y → F x y) → Paired F xs ys
  | [], [], _, _ => .nil
  | x :: xs, y :: ys, h, q => .cons (q 0 x y rfl rfl) (paired_mk (Nat.succ.inj h) fun i x' y' e1 e2 => q (i + 1) x' y' e1 e2)
theorem vals_range {n : Nat} {acc : Array Value} (h : ItemsOf (fun i v => ∃ t, v = .int (0 + i * 1) t) acc n) : Vals (nums ((List.range n).map Int.ofNat)) acc.toList := by
  obtain ⟨h1, h2⟩ := h
  refine paired_mk (by unfold nums; rw [List.length_map, List.length_map, List.length_range, Array.length_toList, h1]) fun i x y e1 e2 => ?_
  unfold nums at e1
  rw [List.getElem?_map, List.getElem?_map] at e1
  obtain ⟨j, a1, a2⟩ := Option.map_eq_some_iff.mp e1
  obtain ⟨k, b1, b2⟩ := Option.map_eq_some_iff.mp a1
  obtain ⟨b3, b4⟩ := List.getElem?_eq_some_iff.mp b1
  rw [List.getElem_range] at b4
  rw [Array.getElem?_toList] at e2
  obtain ⟨t, et⟩ := h2 i y e2
  subst et a2 b2 b4
  exact ⟨t, by simp⟩
def tListRange1 (ta : TA) : TE := fun σ H Q => ta σ H fun vs H1 => ∃ j : Int, vs = [.int j] ∧ 0 ≤ j ∧ j ≤ 100000 ∧ ∀ l, H1 l = none → Q (.ref l) (upd H1 l (.lst (nums ((List.range j.toNat).map Int.ofNat))))
theorem pe_listRange1 {X : Cx} {a : Expr} {ta : TA} {p p' pos' pos : Pos} (hc : X.calm = true) (hg : Gl X "range") (hm : X.mg "range" = none) (hgl : Gl X "list") (hml : X.mg "list" = none) (hvl : bootBuiltins "list" = some (.type "list")) (ha : PA X [a] ta) (hs : starEach [a] X.env = [(false, eval a X.env)] := by rfl)
    (hsl : starEach [.Call (.Name "range" p) [a] [] pos] X.env = (false, eval (.Call (.Name "range" p) [a] [] pos) X.env) :: starEach [] X.env := by rfl) :
    PE X (.Call (.Name "list" p') [.Call (.Name "range" p) [a] [] pos] [] pos') (tListRange1 ta) := by
  refine ⟨fun pins s σ H Q I h => ?_⟩
  refine wpAny_Call_Name_kw (ld_blt I hgl hml hvl ?_)
  refine PyProof.Rows.callWith_type1 ?_ hsl rfl
  rw [hsl]
  show wpAny _ _ (spliced ((false, eval (.Call (.Name "range" p) [a] [] pos) X.env) :: backTo pos' (starEach [] X.env))) _ _ s
  refine Calls.spliced_cons ?_
  refine Call_ (ld_blt I hg hm boot_range (PyProof.Rows.callWith_type1 (thn (ha.run pos pins s σ H _ I h) fun us s1 ⟨vs, H1, I1, r1, q1⟩ => ?_) hs rfl))
  obtain ⟨j, e, q1, q2, q⟩ := q1
  subst e
  cases r1 with
  | cons r rr =>
    cases rr
    obtain ⟨t, rfl⟩ := r
    refine call_range_1 ?_
    refine Calls.spliced_nil ?_
    have I2 : Inv X pins σ H1 { s1 with heap := s1.heap.push { cls := .type "range", data := .fields #[.int 0 s1.toks, .int j t, .int 1 (s1.toks + 1)] }, toks := s1.toks + 1 + 1 } := I1.kept fun b o e => Heap.get?_push_of_some _ e
    refine PySem.call_list_range (n := j.toNat) (I2.ok.hd hc) (IsRange.new ..) (small_one (by omega) (by omega) (by omega) (by omega)) (by rw [rangeSize_one]; split <;> omega) (by omega) fun h' tk acc c hk hS hacc => ?_
    have hz : (nums ((List.range j.toNat).map Int.ofNat)).length ≤ sizeLine := by
      unfold nums
      rw [List.length_map, List.length_map, List.length_range]
      exact big' (by omega)
    exact ⟨.ref _, _, I2.laid (t' := tk) hk (Nat.le_refl _) (show ObjOk X.prog X.w _ h' _ (.lst _) from ⟨hz, acc.toList, c, vals_range hacc, by rw [Array.toArray_toList]; exact hS⟩), rfl, q _ (I2.hok.fresh (Nat.le_refl _))⟩
end K86
end
section
set_option maxHeartbeats 4000000
namespace K86
open PySem PySem.Spec PyProof.Rows L2
/-! ### the plain part of _law_farthest -/
/-- a run over useful states -/
structure URun (tr : Tr) (g : Bg) (ns : List Int) (s : Int) : Prop where
  bg : g ∈ tr.bs
  go : wk tr.ms g.s ns = some s
  us : ∀ x ∈ trail tr.ms g.s ns, x ∈ tr.us
def worth (tr : Tr) (sg : Int) (g : Bg) (ns : List Int) : Int := sg * ((g.w.length : Int) + pathLead tr ns)
theorem wk_end {ms : List Mv} {s t : Int} {ns : List Int} (h : wk ms s ns = some t) : t ∈ trail ms s ns := by
  obtain ⟨u, a1, a2⟩ := trail_at h (n := ns.length) (Nat.le_refl _)
  rw [List.take_length, h] at a2
  cases a2
  exact List.mem_of_getElem? a1
theorem URun.end {tr : Tr} {g : Bg} {ns : List Int} {s : Int} (r : URun tr g ns s) : s ∈ tr.us := r.us _ (wk_end r.go)
theorem tgt_of {ms : List Mv} {i : Int} {m : Mv} (h : ms[i.toNat]? = some m) : tgt ms i = m.t := by unfold tgt; rw [h]
theorem leadAt_of {tr : Tr} {i : Int} {m : Mv} (h : tr.ms[i.toNat]? = some m) : leadAt tr i = (m.w.length : Int) - 1 := by unfold leadAt; rw [h]
theorem URun.back {tr : Tr} {g : Bg} {ns : List Int} {i s : Int} (r : URun tr g (ns ++ [i]) s) : ∃ m ∈ tr.ms, URun tr g ns m.s ∧ m.t = s ∧ leadAt tr i = (m.w.length : Int) - 1 := by
  have h := r.go
  rw [wk_snoc] at h
  obtain ⟨m, h1, h2, h3, h4, h5⟩ := stepF_some h
  exact ⟨m, List.mem_of_getElem? h3, ⟨r.bg, h4, fun x hx => r.us x (by rw [trail_snoc]; exact List.mem_append_left _ hx)⟩, h5, leadAt_of h3⟩
theorem URun.on {tr : Tr} {g : Bg} {ns : List Int} {m : Mv} (r : URun tr g ns m.s) (hm : m ∈ tr.ms) (ht : m.t ∈ tr.us) : ∃ i, URun tr g (ns ++ [i]) m.t ∧ leadAt tr i = (m.w.length : Int) - 1 := by
  obtain ⟨i, hi⟩ := List.mem_iff_getElem?.mp hm
  have il := (List.getElem?_eq_some_iff.mp hi).1
  have hi' : tr.ms[((i : Int)).toNat]? = some m := by rw [Int.toNat_natCast]; exact hi
  refine ⟨i, ⟨r.bg, ?_, fun x hx => ?_⟩, leadAt_of hi'⟩
  · rw [wk_snoc, r.go]
    unfold stepF
    rw [Option.bind_some, if_pos ⟨by omega, by omega⟩, hi', Option.bind_some, if_pos rfl]
  · rw [trail_snoc, tgt_of hi'] at hx
    rcases List.mem_append.mp hx with h | h
    · exact r.us x h
    · rw [List.mem_singleton.mp h]; exact ht
theorem worth_snoc {tr : Tr} {sg : Int} {g : Bg} {ns : List Int} {i : Int} : worth tr sg g (ns ++ [i]) = worth tr sg g ns + sg * leadAt tr i := by
  unfold worth
  rw [pathLead_app, pathLead_one, ← Int.mul_add, Int.add_assoc]
theorem climb {tr : Tr} {sg : Int} {wf : Int → Option Int} (fx : Fix tr sg wf) : ∀ (ns : List Int) (s t v : Int), wf s = some v → wk tr.ms s ns = some t → (∀ x ∈ trail tr.ms s ns, x ∈ tr.us) → ∃ v', wf t = some v' ∧ v + sg * pathLead tr ns ≤ v'
  | [], s, t, v, h, hw, _ => by
    have e : s = t := Option.some.inj hw
    subst e
    exact ⟨v, h, by unfold pathLead; simp⟩
  | i :: ns, s, t, v, h, hw, hu => by
    have hw' : ns.foldl (stepF tr.ms) (stepF tr.ms (some s) i) = some t := hw
    cases e : stepF tr.ms (some s) i with
    | none => rw [e, fold_none] at hw'; cases hw'
    | some u =>
      rw [e] at hw'
      obtain ⟨m, h1, h2, h3, h4, h5⟩ := stepF_some e
      have es : s = m.s := Option.some.inj h4
      subst es
      have et : tgt tr.ms i = u := by rw [tgt_of h3, h5]
      obtain ⟨v1, a1, a2⟩ := fx m (List.mem_of_getElem? h3) (hu _ List.mem_cons_self) (hu _ (by unfold trail; rw [List.map_cons, et, h5]; simp)) v h
      rw [h5] at a1
      obtain ⟨v2, b1, b2⟩ := climb fx ns u t v1 a1 hw' fun x hx => hu x (by
        unfold trail at hx ⊢
        rw [List.map_cons, et]
        exact List.mem_cons_of_mem _ hx)
      refine ⟨v2, b1, ?_⟩
      have el : pathLead tr (i :: ns) = ((m.w.length : Int) - 1) + pathLead tr ns := by
        have : pathLead tr ([i] ++ ns) = _ := pathLead_app
        rw [pathLead_one, leadAt_of h3] at this
        exact this
      rw [el, Int.mul_add]
      omega
/-- the table after k rounds -/
structure FarK (tr : Tr) (sg : Int) (k : Nat) (f : Int → Option Int) : Prop where
  att : ∀ s v, f s = some v → ∃ g ns, URun tr g ns s ∧ v = worth tr sg g ns
  up : ∀ g ns s, URun tr g ns s → ns.length ≤ k → ∃ v, f s = some v ∧ worth tr sg g ns ≤ v
  low : ∀ s v, f s = some v → -9 * ((k : Int) + 1) ≤ v
/-- f' is f after a round over the moves mm -/
structure Round (tr : Tr) (sg : Int) (mm : List Mv) (f f' : Int → Option Int) : Prop where
  keep : ∀ s v, f s = some v → ∃ v', f' s = some v' ∧ v ≤ v'
  step : ∀ m ∈ mm, m.t ∈ tr.us → ∀ v, f m.s = some v → ∃ v', f' m.t = some v' ∧ v + sg * ((m.w.length : Int) - 1) ≤ v'
  src : ∀ s v, f' s = some v → f s = some v ∨ ∃ m ∈ mm, m.t ∈ tr.us ∧ m.t = s ∧ ∃ v0, f m.s = some v0 ∧ v = v0 + sg * ((m.w.length : Int) - 1)
theorem Round.zero {tr : Tr} {sg : Int} {f : Int → Option Int} : Round tr sg [] f f := ⟨fun s v h => ⟨v, h, Int.le_refl _⟩, fun m h => (nomatch h), fun s v h => .inl h⟩
theorem Round.idle {tr : Tr} {sg : Int} {mm : List Mv} {f f' : Int → Option Int} {m : Mv} (r : Round tr sg mm f f') (h : m.t ∈ tr.us → f m.s = none) : Round tr sg (mm ++ [m]) f f' :=
  by
  refine ⟨r.keep, fun x hx ht v hv => ?_, fun s v h => (r.src s v h).imp id fun ⟨m, a, b⟩ => ⟨m, List.mem_append_left _ a, b⟩⟩
  rcases List.mem_append.mp hx with a | a
  · exact r.step x a ht v hv
  · rw [List.mem_singleton.mp a] at hv ht
    rw [h ht] at hv
    cases hv
theorem Round.put {tr : Tr} {sg : Int} {mm : List Mv} {f f' : Int → Option Int} {m : Mv} (r : Round tr sg mm f f') {v0 nv : Int} (h0 : f m.s = some v0) (ht : m.t ∈ tr.us)
    (h1 : (∃ o, f' m.t = some o ∧ nv = max o (v0 + sg * ((m.w.length : Int) - 1))) ∨ nv = v0 + sg * ((m.w.length : Int) - 1) ∧ f' m.t = none) : Round tr sg (mm ++ [m]) f (setF f' m.t nv) := by
  have hn : v0 + sg * ((m.w.length : Int) - 1) ≤ nv := by
    rcases h1 with ⟨o, _, e⟩ | ⟨e, _⟩
    · rw [e]; exact Int.le_max_right _ _
    · rw [e]; exact Int.le_refl _
  have up : Up f' (setF f' m.t nv) := fun s v e => by
    by_cases hs : s = m.t
    · subst hs
      refine ⟨nv, setF_same, ?_⟩
      rcases h1 with ⟨o, e1, e2⟩ | ⟨_, e1⟩
      · rw [e1] at e
        cases e
        rw [e2]
        exact Int.le_max_left _ _
      · rw [e1] at e
        cases e
    · exact ⟨v, (setF_ne hs).trans e, Int.le_refl _⟩
  refine ⟨fun s v h => ?_, fun x hx hxt v hv => ?_, fun s v h => ?_⟩
  · obtain ⟨v1, a1, a2⟩ := r.keep s v h
    obtain ⟨v2, b1, b2⟩ := up s v1 a1
    exact ⟨v2, b1, by omega⟩
  · rcases List.mem_append.mp hx with a | a
    · obtain ⟨v1, a1, a2⟩ := r.step x a hxt v hv
      obtain ⟨v2, b1, b2⟩ := up _ v1 a1
      exact ⟨v2, b1, by omega⟩
    · have ex := List.mem_singleton.mp a
      subst ex
      rw [h0] at hv
      cases hv
      exact ⟨nv, setF_same, hn⟩
  · have mem : m ∈ mm ++ [m] := List.mem_append_right _ (List.mem_singleton.mpr rfl)
    have old : f' s = some v → f s = some v ∨ ∃ m' ∈ mm ++ [m], m'.t ∈ tr.us ∧ m'.t = s ∧ ∃ v0, f m'.s = some v0 ∧ v = v0 + sg * ((m'.w.length : Int) - 1) := fun h => (r.src s v h).imp id fun ⟨m, a, b⟩ => ⟨m, List.mem_append_left _ a, b⟩
    by_cases hs : s = m.t
    · subst hs
      rw [setF_same] at h
      cases h
      rcases h1 with ⟨o, e1, e2⟩ | ⟨e2, e1⟩
      · by_cases hle : o ≤ v0 + sg * ((m.w.length : Int) - 1)
        · rw [Int.max_eq_right hle] at e2
          exact .inr ⟨m, mem, ht, rfl, v0, h0, e2⟩
        · rw [Int.max_eq_left (by omega)] at e2
          rw [e2]
          exact old (e2 ▸ e1) |> fun q => by rw [e2] at q; exact q
      · exact .inr ⟨m, mem, ht, rfl, v0, h0, e2⟩
    · rw [setF_ne hs] at h
      exact old h
theorem sg_step {sg v0 : Int} {m : Mv} (hs : sg = 1 ∨ sg = -1) (hw : m.w.length ≤ 9) : v0 - 9 ≤ v0 + sg * ((m.w.length : Int) - 1) ∧ v0 + sg * ((m.w.length : Int) - 1) ≤ v0 + 9 := by
  rcases hs with rfl | rfl <;> omega
theorem FarK.next {tr : Tr} {sg : Int} {k : Nat} {f f' : Int → Option Int} (F : FarK tr sg k f) (r : Round tr sg tr.ms f f') (ok : TrOk tr) (hs : sg = 1 ∨ sg = -1) : FarK tr sg (k + 1) f' := by
  refine ⟨fun s v h => ?_, fun g ns s u hl => ?_, fun s v h => ?_⟩
  · rcases r.src s v h with h | ⟨m, hm, ht, e, v0, h0, ev⟩
    · exact F.att s v h
    · subst e
      obtain ⟨g, ns, u, e0⟩ := F.att _ _ h0
      obtain ⟨i, u', li⟩ := u.on hm ht
      exact ⟨g, ns ++ [i], u', by rw [worth_snoc, li, ← e0]; exact ev⟩
  · rcases List.eq_nil_or_concat ns with e | ⟨ns0, i, e⟩
    · subst e
      obtain ⟨v, h1, h2⟩ := F.up g [] s u (Nat.zero_le _)
      obtain ⟨v', h3, h4⟩ := r.keep s v h1
      exact ⟨v', h3, by omega⟩
    · rw [List.concat_eq_append] at e
      subst e
      obtain ⟨m, hm, u0, et, li⟩ := u.back
      rw [List.length_append, List.length_singleton] at hl
      obtain ⟨v, h1, h2⟩ := F.up g ns0 _ u0 (by omega)
      obtain ⟨v', h3, h4⟩ := r.step m hm (by rw [et]; exact u.end) v h1
      rw [et] at h3
      exact ⟨v', h3, by rw [worth_snoc, li]; omega⟩
  · rcases r.src s v h with h | ⟨m, hm, ht, e, v0, h0, ev⟩
    · have := F.low s v h
      omega
    · have := F.low _ _ h0
      have := (sg_step (v0 := v0) hs (ok.mw m hm)).1
      omega
/-- a table that no round changes -/
structure FarD (tr : Tr) (sg : Int) (f : Int → Option Int) : Prop where
  bg : Begun tr sg f
  fx : Fix tr sg f
  att : ∀ s v, f s = some v → ∃ g ns, URun tr g ns s ∧ v = worth tr sg g ns
theorem FarK.done {tr : Tr} {sg : Int} {k : Nat} {f : Int → Option Int} (F : FarK tr sg k f) (r : Round tr sg tr.ms f f) : FarD tr sg f := by
  refine ⟨fun g hg hu => ?_, fun m hm _ ht v hv => r.step m hm ht v hv, F.att⟩
  obtain ⟨v, h1, h2⟩ := F.up g [] g.s ⟨hg, rfl, fun x hx => by
    have : x = g.s := by simpa [trail] using hx
    rw [this]; exact hu⟩ (Nat.zero_le _)
  refine ⟨v, h1, ?_⟩
  unfold worth pathLead at h2
  simpa using h2
theorem FarD.up {tr : Tr} {sg : Int} {f : Int → Option Int} (F : FarD tr sg f) {g : Bg} {ns : List Int} {s : Int} (u : URun tr g ns s) : ∃ v, f s = some v ∧ worth tr sg g ns ≤ v := upper F.bg F.fx u.bg _ ns s rfl u.go u.us
theorem FarD.eq {tr : Tr} {sg : Int} {f f' : Int → Option Int} (F : FarD tr sg f) (F' : FarD tr sg f') : f = f' := by
  have half : ∀ {f f' : Int → Option Int}, FarD tr sg f → FarD tr sg f' → ∀ s v, f s = some v → ∃ v', f' s = some v' ∧ v ≤ v' := fun F F' s v h => by
    obtain ⟨g, ns, u, e⟩ := F.att s v h
    rw [e]
    exact F'.up u
  funext s
  cases e : f s with
  | none =>
    cases e' : f' s with
    | none => rfl
    | some v' =>
      obtain ⟨v, h1, _⟩ := half F' F s v' e'
      rw [e] at h1
      cases h1
  | some v =>
    obtain ⟨v', h1, h2⟩ := half F F' s v e
    obtain ⟨v2, h3, h4⟩ := half F' F s v' h1
    rw [e] at h3
    cases h3
    rw [h1, show v = v' by omega]
/-- a table whose runs meet no state twice -/
structure FarS (tr : Tr) (sg : Int) (f : Int → Option Int) : Prop where
  d : FarD tr sg f
  sh : ∀ s v, f s = some v → ∃ g ns, URun tr g ns s ∧ v = worth tr sg g ns ∧ ns.length < tr.us.length
theorem Done.farS {tr : Tr} {sg : Int} {wf : Int → Option Int} (D : Done tr sg wf) : FarS tr sg wf := by
  obtain ⟨rf, L, I⟩ := D.inv
  have key : ∀ s v, wf s = some v → ∃ g ns, URun tr g ns s ∧ v = worth tr sg g ns ∧ ns.length < tr.us.length := fun s v h => by
    obtain ⟨b, ns, g, _, kp⟩ := I.run s v h
    have u : URun tr g ns s := ⟨List.mem_of_getElem? kp.bg, kp.go, fun x hx => by
      obtain ⟨n, hn⟩ := List.mem_iff_getElem?.mp hx
      have nl := (List.getElem?_eq_some_iff.mp hn).1
      rw [trail_len] at nl
      exact (kp.pre n x (by omega) hn).1⟩
    refine ⟨g, ns, u, ?_, ?_⟩
    · rw [kp.wo]
      unfold worth leadOf bgAt
      rw [kp.bg]
    · have nd : (trail tr.ms g.s ns).Nodup := by
        refine Classical.byContradiction fun z => ?_
        obtain ⟨k, j, hkj, hj, e⟩ := not_nodup z
        rw [trail_len] at hj
        have pos := kp.ps k j hkj (by omega) e
        obtain ⟨x, h1, h2⟩ := trail_at kp.go (n := k) (by omega)
        obtain ⟨x', h3, h4⟩ := trail_at kp.go (n := j) (by omega)
        have ex : x' = x := by rw [← e, h1] at h3; exact (Option.some.inj h3).symm
        subst ex
        have ts := take_seg (ns := ns) (k := k) (j := j) (by omega)
        have hb : wk tr.ms x' (seg ns k j) = some x' := by rw [← ts, wk_app, h2] at h4; exact h4
        obtain ⟨_, v', e1, e2⟩ := kp.pre k x' (by omega) h1
        obtain ⟨v2, f1, f2⟩ := climb D.fx _ _ _ _ e1 hb fun y hy => by
          unfold trail at hy
          rcases List.mem_cons.mp hy with a | a
          · rw [a]; exact u.us _ (List.mem_of_getElem? h1)
          · refine u.us _ ?_
            unfold trail
            refine List.mem_cons_of_mem _ ?_
            obtain ⟨i, i1, i2⟩ := List.mem_map.mp a
            unfold seg at i1
            exact List.mem_map.mpr ⟨i, List.mem_of_mem_take (List.mem_of_mem_drop i1), i2⟩
        rw [e1] at f1
        cases f1
        omega
      have := nd.length_le_of_subset fun x hx => u.us x hx
      rw [trail_len] at this
      omega
  exact ⟨⟨D.bg, D.fx, fun s v h => let ⟨g, ns, a, b, _⟩ := key s v h; ⟨g, ns, a, b⟩⟩, key⟩
theorem FarS.zero {tr : Tr} {sg : Int} (h : tr.us = []) : FarS tr sg fun _ => none :=
  ⟨⟨fun g _ hu => (by rw [h] at hu; cases hu), fun m _ hu => (by rw [h] at hu; cases hu), fun s v h => (nomatch h)⟩, fun s v h => (nomatch h)⟩
theorem FarS.late {tr : Tr} {sg : Int} {wf f : Int → Option Int} {k : Nat} (S : FarS tr sg wf) (F : FarK tr sg k f) (hk : tr.us.length ≤ k + 1) : f = wf := by
  funext s
  cases e : wf s with
  | none =>
    cases e' : f s with
    | none => rfl
    | some v' =>
      obtain ⟨g, ns, u, _⟩ := F.att s v' e'
      obtain ⟨v, h1, _⟩ := S.d.up u
      rw [e] at h1
      cases h1
  | some v =>
    obtain ⟨g, ns, u, ev, hl⟩ := S.sh s v e
    obtain ⟨v1, h1, h2⟩ := F.up g ns s u (by omega)
    obtain ⟨g', ns', u', ev'⟩ := F.att s v1 h1
    obtain ⟨v2, h3, h4⟩ := S.d.up u'
    rw [e] at h3
    cases h3
    rw [h1, show v1 = v by omega]
theorem FarD.rise {tr : Tr} {sg b : Int} {f : Int → Option Int} {pre lp : List Int} {g : Bg} {u : Int} (F : FarD tr sg f) (r : Rising tr sg b pre lp g u) : False := by
  have sub : ∀ x ∈ trail tr.ms g.s pre, x ∈ tr.us := fun x hx => r.us x (by
    unfold trail at hx ⊢
    rw [List.map_append, ← List.cons_append]
    exact List.mem_append_left _ hx)
  obtain ⟨v, h1, _⟩ := F.up ⟨List.mem_of_getElem? r.bg, r.go, sub⟩
  obtain ⟨v', h2, h3⟩ := climb F.fx lp u u v h1 r.back fun x hx => by
    unfold trail at hx
    rcases List.mem_cons.mp hx with a | a
    · rw [a]; exact sub _ (wk_end r.go)
    · refine r.us _ ?_
      unfold trail
      rw [List.map_append]
      exact List.mem_cons_of_mem _ (List.mem_append_right _ a)
  rw [h1] at h2
  cases h2
  have := r.pos
  omega
end K86
end
section
set_option maxHeartbeats 4000000
namespace K86
open PySem PySem.Spec PyProof.Rows L2
open C8 (Cal Met Mak pe_c pe_mk pe_mt pe_mt0)
section
variable {P : Program} {w : World} {K : PySem.W.Frag} {mg : Str → Option Value} {base : Heap}
def N_law_farthest : List Str := ["_law_w", "_law_mark", "_law_turn", "_law_alive_here", "_law_found", "_law_state", "_law_word", "_law_grown", "_law_near", "_law_sign", "_law_far"]
theorem sc_law_farthest : FnScope N_law_farthest ["_law_w", "_law_mark"] (defScope s_law_farthest) := ⟨rfl, rfl, rfl, by decide +kernel, rfl, by decide +kernel, by decide +kernel⟩
def sp_law_farthest (K : PySem.W.Frag) : Sp := fun vs H Q _ => ∃ (wa : Addr) (tr : Tr) (sg : Int), vs = [.ref wa, .int sg] ∧ WTr K H wa tr ∧ TrOk tr ∧ tr.es.length ≤ 9 ∧ Usf tr.bs tr.ms tr.es tr.us ∧ (sg = 1 ∨ sg = -1) ∧
  (∀ H' d D f, Same H H' → H' d = some (.dK D) → DW tr.us D (fun s => (f s).map fun v => sg * v) → FarD tr sg f → Q (.ref d) H') ∧
  (∀ H', Same H H' → (∀ wf, ¬ FarS tr sg wf) → Q .non H')
/-- the table after the begins gs -/
structure Beg0 (tr : Tr) (sg : Int) (gs : List Bg) (f : Int → Option Int) : Prop where
  att : ∀ s v, f s = some v → ∃ g ∈ gs, g.s = s ∧ v = sg * (g.w.length : Int) ∧ s ∈ tr.us
  up : ∀ g ∈ gs, g.s ∈ tr.us → ∃ v, f g.s = some v ∧ sg * (g.w.length : Int) ≤ v
theorem Beg0.zero {tr : Tr} {sg : Int} : Beg0 tr sg [] fun _ => none := ⟨fun s v h => (nomatch h), fun g h => (nomatch h)⟩
theorem Beg0.idle {tr : Tr} {sg : Int} {gs : List Bg} {f : Int → Option Int} {g : Bg} (b : Beg0 tr sg gs f) (h : g.s ∉ tr.us) : Beg0 tr sg (gs ++ [g]) f := by
  refine ⟨fun s v e => ?_, fun x hx hu => ?_⟩
  · obtain ⟨y, a, r⟩ := b.att s v e
    exact ⟨y, List.mem_append_left _ a, r⟩
  · rcases List.mem_append.mp hx with a | a
    · exact b.up x a hu
    · rw [List.mem_singleton.mp a] at hu
      exact absurd hu h
theorem Beg0.put {tr : Tr} {sg : Int} {gs : List Bg} {f : Int → Option Int} {g : Bg} (b : Beg0 tr sg gs f) (h : g.s ∈ tr.us) {nv : Int}
    (h1 : (∃ o, f g.s = some o ∧ nv = max o (sg * (g.w.length : Int))) ∨ nv = sg * (g.w.length : Int) ∧ f g.s = none) : Beg0 tr sg (gs ++ [g]) (setF f g.s nv) := by
  have mem : g ∈ gs ++ [g] := List.mem_append_right _ (List.mem_singleton.mpr rfl)
  refine ⟨fun s v e => ?_, fun x hx hu => ?_⟩
  · by_cases hs : s = g.s
    · subst hs
      rw [setF_same] at e
      cases e
      rcases h1 with ⟨o, e1, e2⟩ | ⟨e2, _⟩
      · by_cases hle : o ≤ sg * (g.w.length : Int)
        · rw [Int.max_eq_right hle] at e2
          exact ⟨g, mem, rfl, e2, h⟩
        · rw [Int.max_eq_left (by omega)] at e2
          obtain ⟨y, a, r⟩ := b.att _ _ e1
          rw [e2]
          exact ⟨y, List.mem_append_left _ a, r⟩
      · exact ⟨g, mem, rfl, e2, h⟩
    · rw [setF_ne hs] at e
      obtain ⟨y, a, r⟩ := b.att s v e
      exact ⟨y, List.mem_append_left _ a, r⟩
  · by_cases hs : x.s = g.s
    · rw [hs]
      refine ⟨nv, setF_same, ?_⟩
      have ge : sg * (g.w.length : Int) ≤ nv := by
        rcases h1 with ⟨o, e1, e2⟩ | ⟨e2, _⟩
        · rw [e2]; exact Int.le_max_right _ _
        · rw [e2]; exact Int.le_refl _
      rcases List.mem_append.mp hx with a | a
      · obtain ⟨v, e3, e4⟩ := b.up x a hu
        rw [hs] at e3
        rcases h1 with ⟨o, e1, e2⟩ | ⟨_, e1⟩
        · rw [e1] at e3
          cases e3
          exact Int.le_trans e4 (by rw [e2]; exact Int.le_max_left _ _)
        · rw [e1] at e3; cases e3
      · rw [List.mem_singleton.mp a]; exact ge
    · rcases List.mem_append.mp hx with a | a
      · obtain ⟨v, e3, e4⟩ := b.up x a hu
        exact ⟨v, (setF_ne hs).trans e3, e4⟩
      · exact absurd (by rw [List.mem_singleton.mp a]) hs
theorem Beg0.far {tr : Tr} {sg : Int} {f : Int → Option Int} (b : Beg0 tr sg tr.bs f) (ok : TrOk tr) (hs : sg = 1 ∨ sg = -1) : FarK tr sg 0 f := by
  refine ⟨fun s v e => ?_, fun g ns s u hl => ?_, fun s v e => ?_⟩
  · obtain ⟨g, hg, es, ev, hu⟩ := b.att s v e
    subst es
    refine ⟨g, [], ⟨hg, rfl, fun x hx => ?_⟩, ?_⟩
    · have : x = g.s := by simpa [trail] using hx
      rw [this]; exact hu
    · rw [ev]; unfold worth pathLead; simp
  · have e : ns = [] := List.length_eq_zero_iff.mp (Nat.le_zero.mp hl)
    subst e
    have es : g.s = s := Option.some.inj u.go
    subst es
    obtain ⟨v, h1, h2⟩ := b.up g u.bg u.end
    refine ⟨v, h1, ?_⟩
    unfold worth pathLead
    simpa using h2
  · obtain ⟨g, hg, _, ev, _⟩ := b.att s v e
    have := ok.bw g hg
    rcases hs with rfl | rfl <;> omega
theorem DW.same_iff {us : List Int} {D D' : List (Key × V)} {f f' : Int → Option Int} (d : DW us D f) (d' : DW us D' f') (keep : ∀ s v, f s = some v → ∃ v', f' s = some v') : (D'.length == D.length && sameD D' D) = true ↔ f' = f := by
  constructor
  · intro h
    rw [Bool.and_eq_true] at h
    have hs := h.2
    unfold sameD at hs
    rw [List.all_eq_true] at hs
    have half : ∀ s v, f' s = some v → f s = some v := fun s v e => by
      have hv : valV D' (.inl s) = some (.int v) := by rw [d'.get s, e]; rfl
      have := of_decide_eq_true (hs _ (mem_of_valV hv))
      have h2 : valV D (.inl s) = some (.int v) := this
      rw [d.get s] at h2
      obtain ⟨j, e1, e2⟩ := Option.map_eq_some_iff.mp h2
      cases e2
      exact e1
    funext s
    cases e : f' s with
    | some v => exact (half s v e).symm
    | none =>
      cases e2 : f s with
      | none => rfl
      | some v =>
        obtain ⟨v', e3⟩ := keep s v e2
        rw [e] at e3
        cases e3
  · intro e
    subst e
    rw [Bool.and_eq_true]
    have mem : ∀ {A B : List (Key × V)}, DW us A f' → DW us B f' → A.length ≤ B.length := fun {A B} a b => by
      have := a.nd.length_le_of_subset (l₂ := B.map (·.1)) fun k hk => by
        obtain ⟨kv, h1, h2⟩ := List.mem_map.mp hk
        obtain ⟨s, i, e, _⟩ := a.ks kv h1
        subst h2
        rw [e]
        have hv := valV_of_mem a.nd h1
        rw [e] at hv
        have hv' : valV A (.inl s) = some (.int i) := hv
        rw [a.get s, ← b.get s] at hv'
        exact List.mem_map.mpr ⟨_, mem_of_valV hv', rfl⟩
      simpa using this
    refine ⟨by have := mem d d'; have := mem d' d; exact beq_iff_eq.mpr (by omega), ?_⟩
    unfold sameD
    refine List.all_eq_true.mpr fun kv h => decide_eq_true ?_
    obtain ⟨s, i, e, _⟩ := d'.ks kv h
    have hv := valV_of_mem d'.nd h
    rw [e] at hv ⊢
    have hv' : valV D' (.inl s) = some (.int i) := hv
    rw [d'.get s, ← d.get s] at hv'
    exact hv'
def mulV (sg : Int) (kv : Key × V) : Key × V := match kv.2 with
  | .int i => (kv.1, .int (sg * i))
  | v => (kv.1, v)
theorem mulV_keys (sg : Int) (W : List (Key × V)) : (W.map (mulV sg)).map (·.1) = W.map (·.1) := by
  rw [List.map_map]
  refine List.map_congr_left fun kv _ => ?_
  show (mulV sg kv).1 = kv.1
  unfold mulV
  split <;> rfl
theorem valV_mul (sg : Int) (W : List (Key × V)) (k : Key) (h : ∀ kv ∈ W, ∃ i, kv.2 = .int i) : valV (W.map (mulV sg)) k = (valV W k).map fun v => match v with
    | .int i => .int (sg * i)
    | v => v := by
  induction W with
  | nil => rfl
  | cons kv W ih =>
    have ih' := ih fun x hx => h x (List.mem_cons_of_mem _ hx)
    obtain ⟨i, hi⟩ := h kv List.mem_cons_self
    have e1 : (mulV sg kv).1 = kv.1 := by unfold mulV; split <;> rfl
    have e2 : (mulV sg kv).2 = .int (sg * i) := by unfold mulV; rw [hi]
    rw [List.map_cons]
    by_cases hk : kv.1 = k
    · rw [valV_pos (by rw [e1]; exact hk), valV_pos hk, e2, hi]
      rfl
    · rw [L2.valV_neg (by rw [e1]; exact hk), L2.valV_neg hk]
      exact ih'
theorem DW.mul {us : List Int} {D : List (Key × V)} {f : Int → Option Int} (sg : Int) (dw : DW us D f) : DW us (D.map (mulV sg)) (fun s => (f s).map fun v => sg * v) := by
  refine ⟨by rw [mulV_keys]; exact dw.nd, fun kv h => ?_, fun s => ?_⟩
  · obtain ⟨kv0, h1, h2⟩ := List.mem_map.mp h
    obtain ⟨s, n, e, hs⟩ := dw.ks kv0 h1
    subst e
    exact ⟨s, sg * n, h2.symm, hs⟩
  · rw [valV_mul sg D _ fun kv h => by obtain ⟨s, n, e, _⟩ := dw.ks kv h; exact ⟨n, by rw [e]⟩, dw.get s]
    cases f s <;> rfl
theorem maxE {i j : Int} : (if j > i then j else i) = max i j := by
  by_cases h : j > i
  · rw [if_pos h, Int.max_eq_right (by omega)]
  · rw [if_neg h, Int.max_eq_left (by omega)]
theorem maxE2 {i : Int} : (if i > i then i else i) = i := by by_cases h : i > i <;> simp
theorem DW.ints {us : List Int} {D : List (Key × V)} {f : Int → Option Int} (d : DW us D f) : ∀ p ∈ D, ∃ i, p.2 = .int i := fun p h => let ⟨_, i, e, _⟩ := d.ks p h; ⟨i, by rw [e]⟩
theorem C_law_farthest (c : Cn K mg) : Cal P w K mg base 3 "_law_farthest" (sp_law_farthest K) [] := by
  refine mkCal (F_law_farthest c) (g_law_farthest c) sc_law_farthest (fun _ _ _ _ _ _ us hl => match us, hl with | [_, _], _ => rfl) (fun vs H Q E h => ?_) (fun cdv A outer s H vs Q E hr h => ?_)
  · obtain ⟨wa, tr, sg, rfl, _⟩ := h
    rfl
  · obtain ⟨wa, tr, sg, rfl, ht, ok, le, usf, hsg, q1, q2⟩ := h
    have hu := hu_of hr
    have hsg' : sg.natAbs ≤ 1 := by rcases hsg with rfl | rfl <;> decide
    refine ⟨_, (pss_cons (ps_asg (pe_tup (pa_cons (pe_c (C_law_alive c) hr (by decide) rfl (pa_cons (pv 0) pa_nil)) (pa_cons pe_dnewK pa_nil))) (pgT K (n := 2) rfl (pgs_cons (pg_name (i := 3) sc_law_farthest.nd rfl (.inl rfl)) (pgs_cons (pg_name (i := 4) sc_law_farthest.nd rfl (.inr rfl)) pgs_nil))))
      (pss_cons (ps_for PassesOwn.never rfl (piL K (pe_dget hu (pv 0) pe_str (fun _ _ => rfl))) (pgT K (n := 2) rfl (pgs_cons (pg_name (i := 5) sc_law_farthest.nd rfl (.inl rfl)) (pgs_cons (pg_name (i := 6) sc_law_farthest.nd rfl (.inl rfl)) pgs_nil)))
        (pss_one (ps_if (pt_cmpR (inI K) (pv 5) (pv 3) (by rfl))
          (pss_one (ps_dput hu (pv 4) (pv 5) (pe_callB (call_max2 rfl) (by rfl) (m_max c) (by decide +kernel) (pa_cons (pe_dget2 hu (pv 4) (pv 5) (pe_op op_mul (pv 1) (pe_callB call_len_str (by rfl) (m_len c) (by decide +kernel) (pa_cons (pv 6) pa_nil))) ⟨rfl, rfl, rfl, rfl⟩) (pa_cons (pe_op op_mul (pv 1) (pe_callB call_len_str (by rfl) (m_len c) (by decide +kernel) (pa_cons (pv 6) pa_nil))) pa_nil))) rfl))
          pss_nil)))
      (pss_cons (ps_for PassesOwn.never rfl (pi_range1 (by rfl) (m_range c) (pa_cons (pe_op op_add (pe_callB (lenS K) (by rfl) (m_len c) (by decide +kernel) (pa_cons (pv 3) pa_nil)) pe_int) pa_nil)) (pg_name (i := 2) sc_law_farthest.nd rfl (.inl rfl))
        (pss_cons (ps_set (i := 7) sc_law_farthest.nd rfl (.inl rfl) (pe_callTy (call_dictP rfl) (by rfl) (m_dict c) (by decide +kernel) (pa_cons (LiI.pe_listItems rfl (pv 4) (by rfl) (m_list c) (by decide +kernel)) pa_nil)))
        (pss_cons (ps_for PassesOwn.never rfl (piL K (pe_dget hu (pv 0) pe_str (fun _ _ => rfl))) (pgT K (n := 4) rfl (pgs_cons (pg_name (i := 8) sc_law_farthest.nd rfl (.inl rfl)) (pgs_cons (pg_name (i := 9) sc_law_farthest.nd rfl (.inl rfl)) (pgs_cons (pg_name (i := 6) sc_law_farthest.nd rfl (.inl rfl)) (pgs_cons (pg_name (i := 10) sc_law_farthest.nd rfl (.inl rfl)) pgs_nil)))))
          (pss_one (ps_if (PW.pt (pw_and (pt_cmp (pc_din hu (pv 8) (pv 4))) (pw_and1 (pt_cmpR (inI K) (pv 10) (pv 3) (by rfl)))))
            (pss_one (ps_dput hu (pv 7) (pv 10) (pe_callB (call_max2 rfl) (by rfl) (m_max c) (by decide +kernel) (pa_cons (pe_dget2 hu (pv 7) (pv 10) (pe_un un_neg pe_int) ⟨rfl, rfl, rfl, rfl⟩) (pa_cons (pe_op op_add (pe_dget hu (pv 4) (pv 8) (fun _ _ => rfl)) (pe_op op_mul (pv 1) (pe_op op_sub (pe_callB call_len_str (by rfl) (m_len c) (by decide +kernel) (pa_cons (pv 6) pa_nil)) pe_int))) pa_nil))) rfl))
            pss_nil)))
        (pss_cons (ps_if (pt_cmpR (eqKI hu) (pv 7) (pv 4) (nomark _))
          (pss_one (ps_ret (pe_callTy (call_dictP rfl) (by rfl) (m_dict c) (by decide +kernel) (pa_cons (pe_lock (pe_lc (own := [("_law_state", 5)]) rfl sc_law_farthest.nd (pi_keys (pv 4)) (blkOk_by (own := [("_law_state", 5)]) (N := N_law_farthest) (sc := defScope s_law_farthest) (by decide +kernel)) (fun _ _ _ _ _ => (pg_name (i := 5) sc_law_farthest.nd rfl (.inl rfl))) (fun _ _ _ _ _ => pts_nil) (fun _ _ _ _ _ => (pe_tup (pa_cons (pv 5) (pa_cons (pe_op op_mul (pv 1) (pe_dget hu (pv 4) (pv 5) (fun _ _ => rfl))) pa_nil)))))) pa_nil))))
          pss_nil)
        (pss_one (ps_set (i := 4) sc_law_farthest.nd rfl (.inr rfl) (pv 7)))))))
      (pss_one (ps_ret pe_non))))), ?_⟩
    refine ⟨_, rfl, wa, tr.n, tr.bs, tr.ms, tr.es, rfl, ht, ok.ln.1, ok.ln.2.1, le, fun H1 al us1 s1 al1 usf1 _ => ?_⟩
    have eus := usf_unique usf usf1
    subst eus
    intro fd hfd
    unfold tNil
    have fd0 := s1.free hfd
    have s2 := same_new (o := .dK []) hfd
    have fdE : upd H1 fd (.dK []) fd = some (.dK []) := upd_same
    have al2 := s2 _ _ al1
    have s02 := s1.trans s2
    generalize upd H1 fd (.dK []) = H2 at s2 fdE al2 s02
    refine ⟨(by show 2 ≤ sizeLine; decide), fun p hp => ?_⟩
    have s3 := same_new (o := .tup [.ref al, .ref fd]) hp
    have pE : upd H2 p (.tup [.ref al, .ref fd]) p = some (.tup [.ref al, .ref fd]) := upd_same
    have al3 := s3 _ _ al2
    have fd3 := s3 _ _ fdE
    have s03 := s02.trans s3
    generalize upd H2 p (.tup [.ref al, .ref fd]) = H3 at s3 pE al3 fd3 s03
    refine ⟨p, _, rfl, SqT.of pE, rfl, _, _, rfl, _, _, rfl, rfl, ?_⟩
    have nal : al ≠ fd := ne_of_none al1 hfd
    obtain ⟨i1, y, o, iv, yv, ov, e1, e2, e3, e4, r1, r2, r3⟩ := ht
    refine ⟨_, rfl, wa, _, rfl, wget_in (s03 _ _ e1), i1, rfl, ⟨_, SqL.of (s03 _ _ e2)⟩, for_list (K := K) (a := i1) (xs := iv) (fun i σ H' => ∃ x2 x5 x6 x7 x8 x9 x10 D f, σ = [some (.ref wa), some (.int sg), x2, some (.ref al), some (.ref fd), x5, x6, x7, x8, x9, x10] ∧ Same H H' ∧ H' al = some (.lst (nums tr.us)) ∧ H' fd = some (.dK D) ∧ DW tr.us D f ∧ Beg0 tr sg (tr.bs.take i) f)
      ⟨_, _, _, _, _, _, _, _, _, rfl, s03, al3, fd3, ⟨by simp, fun kv h => (nomatch h), fun s => rfl⟩, Beg0.zero⟩ (fun i σ H' _ h => by obtain ⟨_, _, _, _, _, _, _, _, _, _, s, _⟩ := h; exact SqL.of (s _ _ e2)) ?_ ?_⟩
    · rintro i x σ H4 hx ⟨x2, x5, x6, x7, x8, x9, x10, D, f, rfl, s4, al4, fd4, dw, bg⟩
      obtain ⟨g, a, hg, rfl, hrow⟩ := r1.get hx
      have et : tr.bs.take (i + 1) = tr.bs.take i ++ [g] := by rw [List.take_add_one, hg]; rfl
      have w9 := ok.bw g (List.mem_of_getElem? hg)
      refine ⟨a, _, rfl, sqT_same hrow s4, rfl, _, _, rfl, _, _, rfl, rfl, ?_⟩
      refine ⟨_, rfl, _, rfl, g.s, tr.us, al, rfl, rfl, .inl (SqL.of al4), _, rfl, ?_⟩
      refine iteD (fun hm => ?_) (fun hm => ?_)
      · have get : DGet H4 fd (kV (.inl g.s)) ((f g.s).map V.int) := by
          have g' := DGet.k (k := Sum.inl g.s) fd4
          rw [dw.get g.s] at g'
          exact g'
        have lenD : D.length < sizeLine := big (by have := dw.le; have := ok.ln.2.2; omega)
        have cm : CMul sg (g.w.length : Int) := .inl (by rcases hsg with rfl | rfl <;> decide)
        have wl : g.w.length ≤ sizeLine := big' (by omega)
        have isd : IsD H4 fd := (.inl ⟨_, .inl fd4⟩)
        cases ef : f g.s with
        | none =>
          rw [ef] at get
          refine ⟨_, rfl, fd, rfl, isd, _, rfl, _, rfl, _, rfl, g.w, rfl, wl, _, _, rfl, rfl, cm, _, get, _, rfl, _, rfl, g.w, rfl, wl, _, _, rfl, rfl, cm, _, _, rfl, _, rfl, _, rfl, fd, _, rfl, DPut.k (k := Sum.inl g.s) fd4 lenD, ?_⟩
          refine ⟨_, _, _, _, _, _, _, _, setF f g.s _, rfl, Same.wr s4 fd0, (by rw [upd_ne nal]; exact al4), upd_same, dw.put hm, by rw [et]; exact bg.put hm (.inr ⟨maxE2, ef⟩)⟩
        | some o' =>
          rw [ef] at get
          refine ⟨_, rfl, fd, rfl, isd, _, rfl, _, rfl, _, rfl, g.w, rfl, wl, _, _, rfl, rfl, cm, _, get, _, rfl, _, rfl, g.w, rfl, wl, _, _, rfl, rfl, cm, _, _, rfl, _, rfl, _, rfl, fd, _, rfl, DPut.k (k := Sum.inl g.s) fd4 lenD, ?_⟩
          refine ⟨_, _, _, _, _, _, _, _, setF f g.s _, rfl, Same.wr s4 fd0, (by rw [upd_ne nal]; exact al4), upd_same, dw.put hm, by rw [et]; exact bg.put hm (.inl ⟨o', ef, maxE⟩)⟩
      · exact ⟨_, _, _, _, _, _, _, D, f, rfl, s4, al4, fd4, dw, by rw [et]; exact bg.idle hm⟩
    rintro σ H4 ⟨x2, x5, x6, x7, x8, x9, x10, D0, f0, rfl, s4, al4, fd4, dw0, bg0⟩
    rw [show tr.bs.take iv.length = tr.bs from List.take_of_length_le (by rw [r1.1]; exact Nat.le_refl _)] at bg0
    have far0 := bg0.far ok hsg
    clear bg0 s1 s2 s3 s02 s03 al1 al2 al3 fd3 fdE pE hp hfd usf1 H1 H2 H3
    have us9 := ok.ln.2.2
    have nal : (nums tr.us).length = tr.us.length := nums_len
    refine ⟨_, rfl, al, _, rfl, .inl (SqL.of al4), _, _, rfl, rfl, ((nums tr.us).length : Int) + 1, rfl, (by rw [nal]; omega), (by rw [nal]; omega), (show ((((nums tr.us).length : Int) + 1).toNat) = tr.us.length + 1 by rw [nal]; omega) ▸ for_range (lo := 0) (n := tr.us.length + 1) (fun i σ H' => ∃ x2 x5 x6 x7 x8 x9 x10 fa D f, σ = [some (.ref wa), some (.int sg), x2, some (.ref al), some (.ref fa), x5, x6, x7, x8, x9, x10] ∧ Same H H' ∧ H' al = some (.lst (nums tr.us)) ∧ H' fa = some (.dK D) ∧ H fa = none ∧ DW tr.us D f ∧ FarK tr sg i f ∧ (tr.us.length < i → ∀ wf, ¬ FarS tr sg wf))
      ⟨_, _, _, _, _, _, _, _, _, _, rfl, s4, al4, fd4, fd0, dw0, far0, fun z => absurd z (by omega)⟩ ?_ ?_⟩
    rotate_left
    · rintro σ H5 ⟨x2, x5, x6, x7, x8, x9, x10, fa, D, f, rfl, s5, _, _, _, _, _, no⟩
      exact q2 _ s5 (no (by omega))
    clear s4 al4 fd4 dw0 far0 fd0 D0 f0 H4
    rintro i σ H5 hi ⟨x2, x5, x6, x7, x8, x9, x10, fa, D, f, rfl, s5, al5, fa5, fa0, dw, far, no⟩
    have ne1 : al ≠ fa := ne_of al5 fa5 (by intro z; cases z)
    refine ⟨_, rfl, fa, D, rfl, fa5, fun H6 p ts keep pn tn np pE pr => ⟨p, ts, D, rfl, SqL.of pE, pairImp (fun t q h => SqT.of h) pr, fun gd hgd => ?_⟩⟩
    rw [show mergeK [] D = D by rw [mergeK_app D [] (by rw [List.nil_append]; exact dw.nd)]; rfl]
    have s6 : Same H5 H6 := keep
    have s06 := s5.trans s6
    have gd0 : H gd = none := s06.free hgd
    have al7 := same_new (o := .dK D) hgd _ _ (s6 _ _ al5)
    have fa7 := same_new (o := .dK D) hgd _ _ (s6 _ _ fa5)
    have s7 := s06.trans (same_new (o := .dK D) hgd)
    have gd7 : upd H6 gd (.dK D) gd = some (.dK D) := upd_same
    have ne2 : fa ≠ gd := ne_of_none (s6 _ _ fa5) hgd
    have ne3 : al ≠ gd := ne_of_none (s6 _ _ al5) hgd
    generalize upd H6 gd (.dK D) = H7 at al7 fa7 s7 gd7
    clear s6 s06 hgd pr pE keep pn tn np
    refine ⟨_, rfl, wa, _, rfl, wget_ways (s7 _ _ e1), y, rfl, ⟨_, SqL.of (s7 _ _ e3)⟩, for_list (K := K) (a := y) (xs := yv) (fun j σ H' => ∃ x5 x6 x8 x9 x10 D' f', σ = [some (.ref wa), some (.int sg), some (.int (0 + i)), some (.ref al), some (.ref fa), x5, x6, some (.ref gd), x8, x9, x10] ∧ Same H H' ∧ H' al = some (.lst (nums tr.us)) ∧ H' fa = some (.dK D) ∧ H' gd = some (.dK D') ∧ DW tr.us D' f' ∧ Round tr sg (tr.ms.take j) f f')
      ⟨_, _, _, _, _, _, _, rfl, s7, al7, fa7, gd7, dw, Round.zero⟩ (fun i σ H' _ h => by obtain ⟨_, _, _, _, _, _, _, _, s, _⟩ := h; exact SqL.of (s _ _ e3)) ?_ ?_⟩
    · rintro j x σ H8 hx ⟨x5, x6, x8, x9, x10, D', f', rfl, s8, al8, fa8, gd8, dw', rd⟩
      obtain ⟨m, a, hm, rfl, hrow⟩ := r2.get hx
      have et : tr.ms.take (j + 1) = tr.ms.take j ++ [m] := by rw [List.take_add_one, hm]; rfl
      have w9 := ok.mw m (List.mem_of_getElem? hm)
      refine ⟨a, _, rfl, sqT_same hrow s8, rfl, _, _, rfl, _, _, rfl, _, _, rfl, _, _, rfl, rfl, ?_⟩
      have get1 : DGet H8 fa (kV (.inl m.s)) ((f m.s).map V.int) := by
        have g' := DGet.k (k := Sum.inl m.s) fa8
        rw [dw.get m.s] at g'
        exact g'
      have idle : (m.t ∈ tr.us → f m.s = none) → Round tr sg (tr.ms.take (j + 1)) f f' := fun h => by rw [et]; exact rd.idle h
      cases ef : f m.s with
      | none =>
        rw [ef] at get1
        refine ⟨_, rfl, _, rfl, fa, _, rfl, get1, _, rfl, ?_⟩
        refine iteF ?_
        exact ⟨_, _, _, _, _, D', f', rfl, s8, al8, fa8, gd8, dw', idle fun _ => ef⟩
      | some v0 =>
        rw [ef] at get1
        refine ⟨_, rfl, _, rfl, fa, _, rfl, get1, _, rfl, ?_⟩
        refine iteT ?_
        refine ⟨_, rfl, _, rfl, m.t, tr.us, al, rfl, rfl, .inl (SqL.of al8), _, rfl, ?_⟩
        refine iteD (fun hm => ?_) (fun hm => ?_)
        · have low := far.low _ _ ef
          have stp := (sg_step (v0 := v0) hsg w9).1
          have get2 : DGet H8 gd (kV (.inl m.t)) ((f' m.t).map V.int) := by
            have g' := DGet.k (k := Sum.inl m.t) gd8
            rw [dw'.get m.t] at g'
            exact g'
          have lenD : D'.length < sizeLine := big (by have := dw'.le; omega)
          have wl : m.w.length ≤ sizeLine := big' (by omega)
          have cm : CMul sg ((m.w.length : Int) - 1) := .inl (by rcases hsg with rfl | rfl <;> decide)
          have isd : IsD H8 gd := (.inl ⟨_, .inl gd8⟩)
          cases eg : f' m.t with
          | none =>
            rw [eg] at get2
            refine ⟨_, rfl, gd, rfl, isd, _, rfl, _, rfl, _, get2, _, rfl, _, rfl, fa, _, rfl, get1, _, rfl, _, rfl, m.w, rfl, wl, _, _, rfl, rfl, _, _, rfl, rfl, cm, _, _, rfl, rfl, _, _, rfl, _, rfl, _, rfl, gd, _, rfl, DPut.k (k := Sum.inl m.t) gd8 lenD, ?_⟩
            rw [maxE, Int.max_eq_right (by omega)]
            refine ⟨_, _, _, _, _, _, setF f' m.t _, rfl, Same.wr s8 gd0, (by rw [upd_ne ne3]; exact al8), (by rw [upd_ne ne2]; exact fa8), upd_same, dw'.put hm, by rw [et]; exact rd.put ef hm (.inr ⟨rfl, eg⟩)⟩
          | some o' =>
            rw [eg] at get2
            refine ⟨_, rfl, gd, rfl, isd, _, rfl, _, rfl, _, get2, _, rfl, _, rfl, fa, _, rfl, get1, _, rfl, _, rfl, m.w, rfl, wl, _, _, rfl, rfl, _, _, rfl, rfl, cm, _, _, rfl, rfl, _, _, rfl, _, rfl, _, rfl, gd, _, rfl, DPut.k (k := Sum.inl m.t) gd8 lenD, ?_⟩
            refine ⟨_, _, _, _, _, _, setF f' m.t _, rfl, Same.wr s8 gd0, (by rw [upd_ne ne3]; exact al8), (by rw [upd_ne ne2]; exact fa8), upd_same, dw'.put hm, by rw [et]; exact rd.put ef hm (.inl ⟨o', eg, maxE⟩)⟩
        · exact ⟨_, _, _, _, _, D', f', rfl, s8, al8, fa8, gd8, dw', idle fun z => absurd z hm⟩
    rintro σ H8 ⟨x5, x6, x8, x9, x10, D', f', rfl, s8, al8, fa8, gd8, dw', rd⟩
    rw [show tr.ms.take yv.length = tr.ms from List.take_of_length_le (by rw [r2.1]; exact Nat.le_refl _)] at rd
    have far' := far.next rd ok hsg
    have iff1 := dw.same_iff dw' fun s v e => let ⟨v', h, _⟩ := rd.keep s v e; ⟨v', h⟩
    refine ⟨_, rfl, _, rfl, gd, fa, D', D, rfl, rfl, gd8, fa8, dw'.ints, dw.ints, _, rfl, ?_⟩
    show if (D'.length == D.length && sameD D' D) = true then _ else _
    by_cases hc : (D'.length == D.length && sameD D' D) = true
    rotate_left
    · rw [if_neg hc]
      have hne : f' ≠ f := fun z => hc (iff1.mpr z)
      refine ⟨_, rfl, ?_⟩
      refine ⟨_, _, _, _, _, _, _, gd, D', f', rfl, s8, al8, gd8, gd0, dw', far', fun hl wf S => hne ?_⟩
      rw [S.late far' (by omega), S.late far (by omega)]
    rw [if_pos hc]
    have ef := iff1.mp hc
    subst ef
    have fdn := far.done rd
    clear gd8 gd7 s7 al7 fa7 s5 al5 fa5
    refine ⟨fa, _, fa8, trivial, fun od => ?_⟩
    have eF : upd H8 fa (.frz od (.dK D)) fa = some (.frz od (.dK D)) := upd_same
    have sF : Same H (upd H8 fa (.frz od (.dK D))) := Same.wr s8 fa0
    generalize upd H8 fa (.frz od (.dK D)) = HF at eF sF
    refine ⟨_, rfl, fa, od, rfl, .inl ⟨D, eF, fun B hB => ?_⟩⟩
    refine lc_keys (d := fa) (o := od) (kvs := D) (fun i H' => Same HF H' ∧ HF B = none ∧ ∃ ps : List Addr, H' B = some (.lst (ps.map V.ref)) ∧ ps.length = i ∧ Paired (fun (p : Addr) (kv : Key × V) => SqT K H' p [kV kv.1, kv.2]) ps ((D.take i).map (mulV sg))) ⟨same_new hB, hB, [], upd_same, rfl, .nil⟩ (fun i H' h => h.1 _ _ eF) ?_ ?_
    · rintro j k v H9 hj ⟨s9, d1, ps, d2, dl, pr⟩
      have mem := List.mem_of_getElem? hj
      obtain ⟨st, n, ekv, hst⟩ := dw.ks _ mem
      have hv := valV_of_mem dw.nd mem
      have jl := (List.getElem?_eq_some_iff.mp hj).1
      have dle := dw.le
      injection ekv with ek ev
      subst ek ev
      have hv' : valV D (.inl st) = some (.int n) := hv
      have getF : DGet H9 fa (kV (.inl st)) (some (.int n)) := by
        rw [← hv']
        exact .inl ⟨D, .inl st, .inr ⟨od, s9 _ _ eF⟩, rfl, rfl⟩
      have et : (D.take (j + 1)).map (mulV sg) = (D.take j).map (mulV sg) ++ [(.inl st, .int (sg * n))] := by
        rw [List.take_add_one, hj, List.map_append]; rfl
      have cm : CMul sg n := .inl (by rcases hsg with rfl | rfl <;> decide)
      refine ⟨rfl, ?_⟩
      refine ⟨_, rfl, _, rfl, _, rfl, _, rfl, fa, _, rfl, getF, _, _, rfl, rfl, cm, (by show 2 ≤ sizeLine; decide), fun z hz => ?_⟩
      have sy := same_new (o := .tup [.int st, .int (sg * n)]) hz
      have d3 := sy _ _ d2
      have d4 : upd H9 z (.tup [.int st, .int (sg * n)]) z = some (.tup [.int st, .int (sg * n)]) := upd_same
      refine ⟨_, d3, big (by rw [List.length_map]; omega), Same.wr (s9.trans sy) d1, d1, ps ++ [z], by rw [upd_same, List.map_append]; rfl, by simp [dl], ?_⟩
      rw [et]
      have im := (Im.same sy).trans (im_lst (o := .lst (ps.map V.ref ++ [V.ref z])) d3)
      exact pairApp (pairImp (fun p kv h => im.sq h) pr) (.cons ((im_lst d3).sq (SqT.of d4)) .nil)
    rintro H9 ⟨s9, d1, ps, d2, dl, pr⟩
    rw [List.take_length] at pr
    have eF9 := s9 _ _ eF
    refine ⟨eF9, ?_⟩
    have nB : B ≠ fa := ne_of d2 eF9 (by intro z; cases z)
    have sG : Same H (upd H9 fa (.dK D)) := Same.wr (sF.trans s9) fa0
    have imU : ∀ (p : Addr) (ys : List V), SqT K H9 p ys → SqT K (upd H9 fa (.dK D)) p ys := fun p ys h => by
      rcases h with (h | ⟨o, h⟩) | h
      · exact .inl (.inl (by rw [upd_ne (ne_of h eF9 (by intro z; cases z))]; exact h))
      · by_cases ha : p = fa
        · subst ha
          rw [eF9] at h
          cases h
        · exact .inl (.inr ⟨o, by rw [upd_ne ha]; exact h⟩)
      · exact .inr h
    refine ⟨B, ps, _, rfl, SqL.of (by rw [upd_ne nB]; exact d2), pairImp (fun p kv h => imU _ _ h) pr, fun d hd => ?_⟩
    have em : mergeK [] (D.map (mulV sg)) = D.map (mulV sg) := by
      rw [mergeK_app _ _ (by rw [List.nil_append, mulV_keys]; exact dw.nd)]
      rfl
    rw [em]
    exact q1 _ d _ f' (sG.trans (same_new hd)) upd_same (dw.mul sg) fdn
end
end K86
end
section
set_option maxHeartbeats 4000000
namespace K86
open PySem PySem.Spec PyProof.Rows L2
open C8 (Cal Met Mak pe_c pe_mk pe_mt pe_mt0)
section
variable {P : Program} {w : World} {K : PySem.W.Frag} {mg : Str → Option Value} {base : Heap}
def N_law_most : List Str := ["_law_told", "_law_mark", "_law_state"]
theorem sc_law_most : FnScope N_law_most ["_law_told", "_law_mark"] (defScope s_law_most) := ⟨rfl, rfl, rfl, by decide +kernel, rfl, by decide +kernel, by decide +kernel⟩
def sp_law_most (K : PySem.W.Frag) : Sp := fun vs H Q _ => ∃ (v : V) (sg : Int), vs = [v, .int sg] ∧ (sg = 1 ∨ sg = -1) ∧ ((v = .non ∧ Q .non H) ∨
  ∃ (d : Addr) (D : List (Key × V)) (us : List Int) (f : Int → Option Int), v = .ref d ∧ H d = some (.dK D) ∧ DW us D (fun s => (f s).map fun v => sg * v) ∧ us.length ≤ 9 ∧
    ((∀ s, f s = none) → ∀ H', Same H H' → Q (.int 0) H') ∧ (∀ m, (∃ s, f s = some m) → (∀ s x, f s = some x → x ≤ m) → ∀ H', Same H H' → Q (.int (sg * m)) H'))
theorem C_law_most (c : Cn K mg) : Cal P w K mg base 1 "_law_most" (sp_law_most K) [] := by
  refine mkCal (F_law_most c) (g_law_most c) sc_law_most (fun _ _ _ _ _ _ us hl => match us, hl with | [_, _], _ => rfl) (fun vs H Q E h => ?_) (fun cdv A outer s H vs Q E hr h => ?_)
  · obtain ⟨v, sg, rfl, _⟩ := h
    rfl
  · obtain ⟨v, sg, rfl, hsg, h⟩ := h
    have hu := hu_of hr
    refine ⟨_, (pss_cons (ps_if (pt_cmpR op_isN (pv 0) pe_non (nomark _))
        (pss_one (ps_ret pe_non))
        pss_nil)
      (pss_one (ps_ret (pe_ifExp (pt_cmpR (neKI hu) (pv 0) pe_dnewK (nomark _)) (pe_op op_mul (pv 1) (pe_callB (cr_max rfl) (by rfl) (m_max c) (by decide +kernel) (pa_cons (pe_lock (pe_lc (own := [("_law_state", 2)]) rfl sc_law_most.nd (pi_keys (pv 0)) (blkOk_by (own := [("_law_state", 2)]) (N := N_law_most) (sc := defScope s_law_most) (by decide +kernel)) (fun _ _ _ _ _ => (pg_name (i := 2) sc_law_most.nd rfl (.inl rfl))) (fun _ _ _ _ _ => pts_nil) (fun _ _ _ _ _ => (pe_op op_mul (pv 1) (pe_dget hu (pv 0) (pv 2) (fun _ _ => rfl)))))) pa_nil))) pe_int)))), ?_⟩
    rcases h with ⟨rfl, q⟩ | ⟨d, D, us, f, rfl, hd, dw, us9, q1, q2⟩
    · refine ⟨_, rfl, rfl, _, rfl, ?_⟩
      exact ifT rfl q
    refine ⟨_, rfl, rfl, _, rfl, ?_⟩
    refine ifF (by intro z; cases z) ?_
    refine ⟨_, rfl, fun e he => ?_⟩
    have s1 := same_new (o := .dK []) he
    have dE := s1 _ _ hd
    have eE : upd H e (.dK []) e = some (.dK []) := upd_same
    generalize upd H e (.dK []) = H1 at s1 dE eE
    refine ⟨d, e, D, [], rfl, rfl, dE, eE, dw.ints, fun p h => (nomatch h), _, rfl, ?_⟩
    have dle := dw.le
    have sq : ∀ x : Int, sg * (sg * x) = x := fun x => by rcases hsg with rfl | rfl <;> omega
    cases D with
    | nil =>
      refine q1 (fun s => ?_) H1 s1
      have := dw.get s
      cases e : f s with
      | none => rfl
      | some v => rw [e] at this; cases this
    | cons kv0 D0 =>
    show if true = true then _ else _
    rw [if_pos rfl]
    generalize hDD : kv0 :: D0 = DD at dw dE dle
    have hne : 0 < DD.length := by rw [← hDD]; simp
    clear hDD kv0 D0 hd
    have nv : ∀ kv ∈ DD, ∃ s x, kv = (.inl s, .int (sg * x)) ∧ f s = some x := fun kv hk => by
      obtain ⟨st, n, e, _⟩ := dw.ks kv hk
      have hv := valV_of_mem dw.nd hk
      rw [e] at hv
      have hv' : valV DD (.inl st) = some (.int n) := hv
      rw [dw.get st] at hv'
      obtain ⟨j, e1, e2⟩ := Option.map_eq_some_iff.mp hv'
      obtain ⟨x, e3, e4⟩ := Option.map_eq_some_iff.mp e1
      injection e2 with e2
      exact ⟨st, x, by rw [e, ← e2, ← e4], e3⟩
    let val : Key × V → Int := fun kv => match kv.2 with | .int i => sg * i | _ => 0
    refine ⟨_, rfl, d, _, dE, trivial, fun od => ?_⟩
    have eF : upd H1 d (.frz od (.dK DD)) d = some (.frz od (.dK DD)) := upd_same
    have kF : ∀ a o, H1 a = some o → a ≠ d → upd H1 d (.frz od (.dK DD)) a = some o := fun a o e n => by rw [upd_ne n]; exact e
    generalize upd H1 d (.frz od (.dK DD)) = HF at eF kF
    refine ⟨_, rfl, d, od, rfl, .inl ⟨DD, eF, fun B hB => ?_⟩⟩
    refine lc_keys (d := d) (o := od) (kvs := DD) (fun i H' => Same HF H' ∧ HF B = none ∧ H' B = some (.lst (nums ((DD.take i).map val)))) ⟨same_new hB, hB, upd_same⟩ (fun i H' h => h.1 _ _ eF) ?_ ?_
    · rintro j k v H9 hj ⟨s9, d1, d2⟩
      have mem := List.mem_of_getElem? hj
      obtain ⟨st, x, ekv, hx⟩ := nv _ mem
      have hv := valV_of_mem dw.nd mem
      have jl := (List.getElem?_eq_some_iff.mp hj).1
      injection ekv with ek ev
      subst ek ev
      have hv' : valV DD (.inl st) = some (.int (sg * x)) := hv
      have getF : DGet H9 d (kV (.inl st)) (some (.int (sg * x))) := by
        rw [← hv']
        exact .inl ⟨DD, .inl st, .inr ⟨od, s9 _ _ eF⟩, rfl, rfl⟩
      have et : (DD.take (j + 1)).map val = (DD.take j).map val ++ [sg * (sg * x)] := by
        rw [List.take_add_one, hj, List.map_append]; rfl
      have cm : CMul sg (sg * x) := .inl (by rcases hsg with rfl | rfl <;> decide)
      refine ⟨rfl, ?_⟩
      refine ⟨_, rfl, _, rfl, _, rfl, d, _, rfl, getF, _, _, rfl, rfl, cm, _, d2, big (by rw [nums_len, List.length_map, List.length_take]; omega), Same.wr s9 d1, d1, ?_⟩
      rw [et, upd_same, ← nums_snoc]
    rintro H9 ⟨s9, d1, d2⟩
    rw [List.take_length] at d2
    have eF9 := s9 _ _ eF
    refine ⟨eF9, ?_⟩
    have nB : B ≠ d := ne_of d2 eF9 (by intro z; cases z)
    have s5 : Same H1 (upd H9 d (.dK DD)) := fun a o e => by
      by_cases ha : a = d
      · subst ha
        rw [upd_same, ← dE]
        exact e
      · rw [upd_ne ha]
        exact s9 _ _ (kF a o e ha)
    refine ⟨B, DD.map val, rfl, SqL.of (by rw [upd_ne nB]; exact d2), (by rw [List.length_map]; exact hne), fun m hm hle => ?_⟩
    refine ⟨_, _, rfl, rfl, .inl (by rcases hsg with rfl | rfl <;> decide), ?_⟩
    refine q2 m ?_ (fun s x hx => ?_) _ (s1.trans s5)
    · obtain ⟨kv, h1, h2⟩ := List.mem_map.mp hm
      obtain ⟨s, x, e, hx⟩ := nv kv h1
      refine ⟨s, ?_⟩
      subst e
      have h2' : sg * (sg * x) = m := h2
      rw [hx, ← h2', sq]
    · have hv : valV DD (.inl s) = some (.int (sg * x)) := by rw [dw.get s, hx]; rfl
      have := hle _ (List.mem_map_of_mem (mem_of_valV hv))
      have h2' : sg * (sg * x) ≤ m := this
      rw [sq] at h2'
      exact h2'
end
end K86
end
section
set_option maxHeartbeats 4000000
namespace K86
open PySem PySem.Spec PyProof.Rows L2
open C8 (Cal Met Mak pe_c pe_mk pe_mt pe_mt0)
section
variable {P : Program} {w : World} {K : PySem.W.Frag} {mg : Str → Option Value} {base : Heap}
def N_law_strolled : List Str := ["_law_deck_here", "_law_w", "_law_most_now", "_law_alive_here", "_law_some", "_law_begun", "_law_turn", "_law_here", "_law_path_here", "_law_on", "_law_k", "_law_way"]
theorem sc_law_strolled : FnScope N_law_strolled ["_law_deck_here", "_law_w", "_law_most_now"] (defScope s_law_strolled) := ⟨rfl, rfl, rfl, by decide +kernel, rfl, by decide +kernel, by decide +kernel⟩
/-- indices of a list with n items -/
def Ixs (n : Nat) (is : List Int) : Prop := ∀ i ∈ is, 0 ≤ i ∧ i < n
def sp_law_strolled (K : PySem.W.Frag) : Sp := fun vs H Q _ => ∃ (d c' wa : Addr) (k b : Int) (tr : Tr), vs = [.ref d, .ref wa, .int b] ∧ DeckAt H d c' k ∧ k ≤ 90000 ∧ 0 ≤ b ∧ b ≤ 50 ∧ (∀ H', Bx d c' H H' → WTr K H' wa tr) ∧ TrOk tr ∧ tr.es.length ≤ 9 ∧ Usf tr.bs tr.ms tr.es tr.us ∧ 0 < tr.bs.length ∧
  ∀ H' r bg ns g z k', Bx d c' H H' → DeckAt H' d c' k' → k' ≤ k + 60 → RunAt K H' r bg ns → 0 ≤ bg → tr.bs[bg.toNat]? = some g → wk tr.ms g.s ns = some z → ns.length ≤ 50 → Q (.ref r) H'
theorem C_law_strolled (c : Cn K mg) : Cal P w K mg base 3 "_law_strolled" (sp_law_strolled K) [] := by
  refine mkCal (F_law_strolled c) (g_law_strolled c) sc_law_strolled (fun _ _ _ _ _ _ us hl => match us, hl with | [_, _, _], _ => rfl) (fun vs H Q E h => ?_) (fun cdv A outer s H vs Q E hr h => ?_)
  · obtain ⟨d, c', wa, k, b, tr, rfl, _⟩ := h
    rfl
  · obtain ⟨d, c', wa, k, b, tr, rfl, dk, hk, b0, b1, ht, ok, le, usf, lb0, q⟩ := h
    have hu := hu_of hr
    refine ⟨_, (pss_cons (ps_set (i := 3) sc_law_strolled.nd rfl (.inr rfl) (pe_c (C_law_alive c) hr (by decide) rfl (pa_cons (pv 1) pa_nil)))
      (pss_cons (ps_set (i := 4) sc_law_strolled.nd rfl (.inl rfl) (pe_orT (pe_lc (own := [("_law_k", 10), ("_law_way", 11)]) rfl sc_law_strolled.nd (pi_enum (by rfl) (m_enumerate c) (pa_cons (pe_dget hu (pv 1) pe_str (fun _ _ => rfl)) pa_nil)) (blkOk_by (own := [("_law_k", 10), ("_law_way", 11)]) (N := N_law_strolled) (sc := defScope s_law_strolled) (by decide +kernel)) (fun _ _ _ _ _ => (pgT K (n := 2) rfl (pgs_cons (pg_name (i := 10) sc_law_strolled.nd rfl (.inl rfl)) (pgs_cons (pg_name (i := 11) sc_law_strolled.nd rfl (.inl rfl)) pgs_nil)))) (fun _ _ _ _ _ => pts_one (pt_cmpR (inI K) (pe_ix (ixT K) (pv 11) pe_int (fun _ _ => rfl)) (pv 3) (by rfl))) (fun _ _ _ _ _ => (pv 10))) (pe_one (pe_listRange1 rfl (by rfl) (m_range c) (by rfl) (m_list c) (by decide +kernel) (pa_cons (pe_callB (lenS K) (by rfl) (m_len c) (by decide +kernel) (pa_cons (pe_dget hu (pv 1) pe_str (fun _ _ => rfl)) pa_nil)) pa_nil)))))
      (pss_cons (ps_set (i := 5) sc_law_strolled.nd rfl (.inl rfl) (pe_c (C_law_pick c) hr (by decide) rfl (pa_cons (pv 0) (pa_cons (pv 4) pa_nil))))
      (pss_cons (ps_asg (pe_tup (pa_cons (pe_ix (ixT K) (pe_ix (ixL K) (pe_dget hu (pv 1) pe_str (fun _ _ => rfl)) (pv 5) (fun _ _ => rfl)) pe_int (fun _ _ => rfl)) (pa_cons (pe_lst pa_nil) pa_nil))) (pgT K (n := 2) rfl (pgs_cons (pg_name (i := 7) sc_law_strolled.nd rfl (.inr rfl)) (pgs_cons (pg_name (i := 8) sc_law_strolled.nd rfl (.inl rfl)) pgs_nil))))
      (pss_cons (ps_for PassesOwn.never rfl (pi_range1 (by rfl) (m_range c) (pa_cons (pe_c (C_law_draw c) hr (by decide) rfl (pa_cons (pv 0) (pa_cons (pe_op op_add (pv 2) pe_int) pa_nil))) pa_nil)) (pg_name (i := 6) sc_law_strolled.nd rfl (.inl rfl))
        (pss_cons (ps_setLc (i := 9) (own := [("_law_k", 10), ("_law_way", 11)]) rfl sc_law_strolled.nd rfl rfl (sw_true rfl rfl rfl (by decide +kernel)) (pi_enum (by rfl) (m_enumerate c) (pa_cons (pe_dget hu (pv 1) pe_str (fun _ _ => rfl)) pa_nil)) (blkOk_by (own := [("_law_k", 10), ("_law_way", 11)]) (N := N_law_strolled) (sc := defScope s_law_strolled) (by decide +kernel)) (fun _ _ _ _ _ => (pgT K (n := 2) rfl (pgs_cons (pg_name (i := 10) sc_law_strolled.nd rfl (.inl rfl)) (pgs_cons (pg_name (i := 11) sc_law_strolled.nd rfl (.inl rfl)) pgs_nil)))) (fun _ _ _ _ _ => pts_one (PW.pt (pw_and (pt_cmpR op_eq (pe_ix (ixT K) (pv 11) pe_int (fun _ _ => rfl)) (pv 7) (nomark _)) (pw_and1 (PW.pt (pw_or (pt_cmpR (inI K) (pe_ix (ixT K) (pv 11) pe_int (fun _ _ => rfl)) (pv 3) (by rfl)) (pw_or1 (pt_cmpR (eqD K hr.units) (pv 3) (pe_lst pa_nil) (nomark _))))))))) (fun _ _ _ _ _ => (pv 10)))
        (pss_cons (ps_if (pt_cmpR (eqD K hr.units) (pv 9) (pe_lst pa_nil) (nomark _))
          (pss_one (ps_ret (pe_tup (pa_cons (pv 5) (pa_cons (pe_callTy (tupOf K) (by rfl) (m_tuple c) (by decide +kernel) (pa_cons (pv 8) pa_nil)) pa_nil)))))
          pss_nil)
        (pss_cons (ps_expr (pe_bm PySem.F.plainAttrs_list PySem.F.slot_list_append PySem.F.type_list_append mt_append (pv 8) (pa_cons (pe_c (C_law_pick c) hr (by decide) rfl (pa_cons (pv 0) (pa_cons (pv 9) pa_nil))) pa_nil)))
        (pss_one (ps_set (i := 7) sc_law_strolled.nd rfl (.inr rfl) (pe_ix (ixT K) (pe_ix (ixL K) (pe_dget hu (pv 1) pe_str (fun _ _ => rfl)) (pe_ix (ixL K) (pv 8) (pe_un un_neg pe_int) (fun _ _ => rfl)) (fun _ _ => rfl)) pe_int (fun _ _ => rfl))))))))
      (pss_one (ps_ret (pe_tup (pa_cons (pv 5) (pa_cons (pe_callTy (tupOf K) (by rfl) (m_tuple c) (by decide +kernel) (pa_cons (pv 8) pa_nil)) pa_nil)))))))))), ?_⟩
    have ht0 := ht H (Bx.refl _)
    refine ⟨_, rfl, wa, tr.n, tr.bs, tr.ms, tr.es, rfl, ht0, ok.ln.1, ok.ln.2.1, le, fun H1 al us1 s1 al1 usf1 al0 => ?_⟩
    have eus := usf_unique usf usf1
    subst eus
    have bx1 : Bx d c' H H1 := Bx.same s1
    have dk1 := dk.same s1
    obtain ⟨i1, y, o, iv, yv, ov, e1, e2, e3, e4, r1, r2, r3⟩ := ht H1 bx1
    have ivl : iv.length = tr.bs.length := r1.1
    have us9 := ok.ln.2.2
    refine ⟨_, rfl, wa, _, rfl, wget_in e1, i1, iv, rfl, SqL.of e2, fun D hD => lc_enumL (K := K) (a := i1) (xs := iv) (fun i H' => Same H1 H' ∧ H1 D = none ∧ ∃ is, H' D = some (.lst (nums is)) ∧ is.length ≤ i ∧ Ixs tr.bs.length is)
      ⟨same_new hD, hD, [], upd_same, Nat.le_refl _, fun i h => (nomatch h)⟩ (fun i H' _ h => SqL.of (h.1 _ _ e2)) ?_ ?_⟩
    · rintro i x T H2 hx ⟨s2, d1, is, d2, il, ix⟩ hT
      obtain ⟨g, a, hg, rfl, hrow⟩ := r1.get hx
      have gl := (List.getElem?_eq_some_iff.mp hg).1
      have sT := same_new (o := .tup [.int (i : Nat), .ref a]) hT
      have eT : upd H2 T (.tup [.int (i : Nat), .ref a]) T = some (.tup [.int (i : Nat), .ref a]) := upd_same
      have s3 := s2.trans sT
      have d3 := sT _ _ d2
      generalize upd H2 T (.tup [.int (i : Nat), .ref a]) = H3 at sT eT s3 d3
      refine ⟨T, _, rfl, SqT.of eT, rfl, _, _, rfl, _, _, rfl, rfl, rfl, ?_⟩
      refine ⟨_, rfl, _, _, _, _, rfl, rfl, sqT_same hrow s3, rfl, _, rfl, g.s, tr.us, al, rfl, rfl, .inl (SqL.of (s3 _ _ al1)), _, rfl, ?_⟩
      refine iteD (fun hm => ?_) (fun hm => ?_)
      · have bl9 := ok.ln.1
        refine ⟨_, rfl, _, d3, big (by rw [nums_len]; omega), Same.wr s3 d1, d1, is ++ [(i : Int)], by rw [upd_same, nums_snoc], by simp; omega, fun z hz => ?_⟩
        rcases List.mem_append.mp hz with h | h
        · exact ix z h
        · rw [List.mem_singleton.mp h]; omega
      · exact ⟨s3, d1, is, d3, by omega, ix⟩
    rintro H2 ⟨s2, d1, is, d2, il, ix⟩
    have nal : al ≠ d ∧ al ≠ c' := dk.new al0
    have nD := dk1.new hD
    clear e1 e3 e4 r2 r3 o y ov yv
    refine ⟨!(nums is).isEmpty, .inl ⟨_, SqL.of d2, rfl⟩, ?_⟩
    have bl9 := ok.ln.1
    cases is with
    | nil =>
      refine iteF ?_
      obtain ⟨i1, y, o, iv, yv, ov, e1, e2, e3, e4, r1, r2, r3⟩ := (ht H1 bx1).same s2
      refine ⟨_, rfl, wa, _, rfl, wget_in e1, i1, _, rfl, .inl (SqL.of e2), (iv.length : Int), rfl, by omega, by have := r1.1; omega, fun l hl => ?_⟩
      have nl := (dk1.same s2).new hl
      have sl := s2.trans (same_new (o := .lst (nums ((List.range (iv.length : Int).toNat).map Int.ofNat))) hl)
      have el : upd H2 l (.lst (nums ((List.range (iv.length : Int).toNat).map Int.ofNat))) l = some (.lst (nums ((List.range (iv.length : Int).toNat).map Int.ofNat))) := upd_same
      have ivl2 : iv.length = tr.bs.length := r1.1
      generalize hjs : (List.range (iv.length : Int).toNat).map Int.ofNat = js at sl el
      generalize upd H2 l (.lst (nums js)) = HL at sl el
      have jln : js.length = tr.bs.length := by rw [← hjs, List.length_map, List.length_range]; omega
      have jne : js ≠ [] := fun z => by rw [z] at jln; simp at jln; omega
      have jix : Ixs tr.bs.length js := fun z hz => by
        rw [← hjs] at hz
        obtain ⟨n, hn, e⟩ := List.mem_map.mp hz
        have hn' := List.mem_range.mp hn
        have e' : (n : Int) = z := e
        omega
      clear e1 e2 e3 e4 r1 r2 r3 hjs ivl2 ivl iv i1 y o yv ov
      have dkX := dk1.same sl
      refine ⟨_, rfl, _, rfl, d, c', k, dkX, by omega, .inl ⟨l, nums js, rfl, nl.2, el, (by rw [nums_len]; exact List.length_pos_iff.mpr jne), (by rw [nums_len]; exact (by omega)), fun H4 v hv dk4 bx4 => ?_⟩⟩
      obtain ⟨bg, hbg, rfl⟩ := List.mem_map.mp (show v ∈ js.map V.int from hv)
      have bgx := jix bg hbg
      obtain ⟨g, hg⟩ : ∃ g, tr.bs[bg.toNat]? = some g := ⟨_, List.getElem?_eq_getElem (by omega)⟩
      have bx04 : Bx d c' H H4 := (bx1.trans (Bx.same sl)).trans bx4
      have al4 := bx4 _ _ (sl _ _ al1) nal.1 nal.2
      clear dkX hv hbg
      obtain ⟨i1, y, o, iv, yv, ov, e1, e2, e3, e4, r1, r2, r3⟩ := ht H4 bx04
      obtain ⟨ga, hga, hrow⟩ := r1.2 _ _ hg
      refine ⟨_, rfl, wa, _, rfl, wget_in e1, _, rfl, i1, _, _, _, rfl, rfl, SqL.of e2, atI_int bgx.1 hga, _, _, _, _, rfl, rfl, hrow, rfl, Nat.zero_le _, fun pl hpl => ?_⟩
      have s5 := same_new (o := .lst []) hpl
      have pE : upd H4 pl (.lst []) pl = some (.lst []) := upd_same
      have npl := dk4.new hpl
      have pl0 : H pl = none := by
        cases e : H pl with
        | none => rfl
        | some oo =>
          have := bx04 _ _ e npl.1 npl.2
          rw [hpl] at this
          cases this
      have bx05 := bx04.trans (Bx.same (wa := d) (ra := c') s5)
      have al5 := s5 _ _ al4
      have dk5 := dk4.same s5
      generalize upd H4 pl (.lst []) = H5 at s5 pE bx05 al5 dk5
      refine ⟨(by show 2 ≤ sizeLine; decide), fun tp htp => ?_⟩
      have s6 := same_new (o := .tup [.int g.s, .ref pl]) htp
      have tE : upd H5 tp (.tup [.int g.s, .ref pl]) tp = some (.tup [.int g.s, .ref pl]) := upd_same
      have nalpl : al ≠ pl := ne_of_none al4 hpl
      have pE6 := s6 _ _ pE
      have al6 := s6 _ _ al5
      have dk6 := dk5.same s6
      have bx06 := bx05.trans (Bx.same (wa := d) (ra := c') s6)
      generalize upd H5 tp (.tup [.int g.s, .ref pl]) = H6 at s6 tE pE6 al6 dk6 bx06
      clear pE al5 dk5 bx05 dk4 bx04 al4 s5 e1 e2 e3 e4 r1 r2 r3 hrow hga
      refine ⟨tp, _, rfl, SqT.of tE, rfl, _, _, rfl, _, _, rfl, rfl, ?_⟩
      refine ⟨_, rfl, _, rfl, _, _, rfl, rfl, d, c', k + 1, b + 1, rfl, dk6, by omega, by omega, by omega, fun H7 r r0 r1 dk7 bx7 => ?_⟩
      have pE7 := bx7 _ _ pE6 npl.1 npl.2
      have al7 := bx7 _ _ al6 nal.1 nal.2
      have bx07 := bx06.trans bx7
      unfold tNil
      refine ⟨r, rfl, by omega, by omega, for_range (lo := 0) (n := r.toNat) (fun i σ H' => ∃ x6 x9 x10 x11 here ns kk, σ = [some (.ref d), some (.ref wa), some (.int b), some (.ref al), some (.ref l), some (.int bg), x6, some (.int here), some (.ref pl), x9, x10, x11] ∧ Bx d c' H H' ∧ DeckAt H' d c' kk ∧ kk ≤ k + 2 + (i : Nat) ∧ H' pl = some (.lst (nums ns)) ∧ H' al = some (.lst (nums tr.us)) ∧ wk tr.ms g.s ns = some here ∧ ns.length ≤ i)
        ⟨_, _, _, _, _, [], _, rfl, bx07, dk7, by omega, pE7, al7, rfl, Nat.zero_le _⟩ ?_ ?_⟩
      rotate_left
      · rintro σ G ⟨x6, x9, x10, x11, here, ns, kk, rfl, bxG, dkG, hkk, plG, alG, wkG, nsl⟩
        refine ⟨_, rfl, _, rfl, pl, nums ns, rfl, .inl ⟨SqL.of plG, fun tl htl => ?_⟩⟩
        have s8 := same_new (o := .tup (nums ns)) htl
        have tlE : upd G tl (.tup (nums ns)) tl = some (.tup (nums ns)) := upd_same
        have dk8 := dkG.same s8
        have bx8 := bxG.trans (Bx.same (wa := d) (ra := c') s8)
        generalize upd G tl (.tup (nums ns)) = G2 at s8 tlE dk8 bx8
        refine ⟨(by show 2 ≤ sizeLine; decide), fun q' hq' => ?_⟩
        have s9 := same_new (o := .tup [.int bg, .ref tl]) hq'
        exact q _ q' bg ns g here kk (bx8.trans (Bx.same s9)) (dk8.same s9) (by omega) ⟨tl, SqT.of upd_same, SqT.of (s9 _ _ tlE)⟩ bgx.1 hg wkG (by omega)
      rintro i σ H8 hi ⟨x6, x9, x10, x11, here, ns, kk, rfl, bx8, dk8, hkk, pl8, al8, wk8, nsl⟩
      obtain ⟨i1, y, o, iv, yv, ov, e1, e2, e3, e4, r1, r2, r3⟩ := ht H8 bx8
      have yvl : yv.length = tr.ms.length := r2.1
      have ms9 := ok.ln.2.1
      refine ⟨_, rfl, wa, _, rfl, wget_ways e1, y, yv, rfl, SqL.of e3, fun E hE => lc_enumL (K := K) (a := y) (xs := yv) (fun j H' => Same H8 H' ∧ H8 E = none ∧ ∃ is, H' E = some (.lst (nums is)) ∧ is.length ≤ j ∧ ∀ z ∈ is, 0 ≤ z ∧ ∃ m, tr.ms[z.toNat]? = some m ∧ m.s = here)
        ⟨same_new hE, hE, [], upd_same, Nat.le_refl _, fun i h => (nomatch h)⟩ (fun i H' _ h => SqL.of (h.1 _ _ e3)) ?_ ?_⟩
      · rintro j x T H9 hx ⟨s9, d1, is, d2, il, ix⟩ hT
        obtain ⟨m, a, hm, rfl, hrow⟩ := r2.get hx
        have gl := (List.getElem?_eq_some_iff.mp hm).1
        have sT := same_new (o := .tup [.int (j : Nat), .ref a]) hT
        have eT : upd H9 T (.tup [.int (j : Nat), .ref a]) T = some (.tup [.int (j : Nat), .ref a]) := upd_same
        have s10 := s9.trans sT
        have d3 := sT _ _ d2
        generalize upd H9 T (.tup [.int (j : Nat), .ref a]) = H10 at sT eT s10 d3
        refine ⟨T, _, rfl, SqT.of eT, rfl, _, _, rfl, _, _, rfl, rfl, rfl, ?_⟩
        refine ⟨_, rfl, _, _, _, _, rfl, rfl, sqT_same hrow s10, rfl, _, rfl, rfl, _, rfl, ?_⟩
        have il1 : is.length ≤ j + 1 := by omega
        refine iteD (fun hs => ?_) (fun _ => iteF ⟨s10, d1, is, d3, il1, ix⟩)
        have hs' : m.s = here := by injection hs
        have lenS : (nums is).length < sizeLine := big (by rw [nums_len]; omega)
        have il2 : (is ++ [(j : Int)]).length ≤ j + 1 := by simp; omega
        have ix2 : ∀ z ∈ is ++ [(j : Int)], 0 ≤ z ∧ ∃ m, tr.ms[z.toNat]? = some m ∧ m.s = here := fun z hz => by
          rcases List.mem_append.mp hz with h | h
          · exact ix z h
          · rw [List.mem_singleton.mp h]
            exact ⟨by omega, m, by rw [Int.toNat_natCast]; exact hm, hs'⟩
        refine ⟨_, rfl, _, _, _, _, rfl, rfl, sqT_same hrow s10, rfl, _, rfl, m.t, tr.us, al, rfl, rfl, .inl (SqL.of (s10 _ _ al8)), _, rfl, ?_⟩
        refine iteD (fun _ => ?_) (fun _ => ?_)
        · refine iteT ?_
          exact ⟨_, rfl, _, d3, lenS, Same.wr s10 d1, d1, is ++ [(j : Int)], by rw [upd_same, nums_snoc], il2, ix2⟩
        refine ⟨_, rfl, Nat.zero_le _, fun e he => ?_⟩
        have s11 := s10.trans (same_new (o := .lst []) he)
        have d4 := same_new (o := .lst []) he _ _ d3
        have eE : upd H10 e (.lst []) e = some (.lst []) := upd_same
        generalize upd H10 e (.lst []) = H11 at s11 d4 eE
        refine ⟨_, .list [], dpL (SqL.of (s11 _ _ al8)), dpE eE, shaped_list _, shaped_list [], ?_⟩
        rw [eqv_lnil]
        refine ⟨_, rfl, ?_⟩
        refine iteD (fun _ => ?_) (fun _ => ?_)
        rotate_left
        · exact ⟨s11, d1, is, d4, il1, ix⟩
        exact ⟨_, rfl, _, d4, lenS, Same.wr s11 d1, d1, is ++ [(j : Int)], by rw [upd_same, nums_snoc], il2, ix2⟩
      rintro H9 ⟨s9, d1, is, d2, il, ix⟩
      have nE := dk8.new d1
      refine ⟨_, rfl, Nat.zero_le _, fun e he => ?_⟩
      have s10 := s9.trans (same_new (o := .lst []) he)
      have dE := same_new (o := .lst []) he _ _ d2
      have eE : upd H9 e (.lst []) e = some (.lst []) := upd_same
      generalize upd H9 e (.lst []) = H10 at s10 dE eE
      refine ⟨_, .list [], dpL (SqL.of dE), dpE eE, shaped_list _, shaped_list [], ?_⟩
      rw [eqv_lnil]
      refine ⟨_, rfl, ?_⟩
      have bx10 : Bx d c' H H10 := bx8.trans (Bx.same s10)
      have dk10 := dk8.same s10
      have pl10 := s10 _ _ pl8
      have al10 := s10 _ _ al8
      refine iteD (fun h0 => ?_) (fun h0 => ?_)
      · refine ⟨_, rfl, _, rfl, pl, nums ns, rfl, .inl ⟨SqL.of pl10, fun tl htl => ?_⟩⟩
        have s8 := same_new (o := .tup (nums ns)) htl
        have tlE : upd H10 tl (.tup (nums ns)) tl = some (.tup (nums ns)) := upd_same
        have dk8 := dk10.same s8
        have bx8 := bx10.trans (Bx.same (wa := d) (ra := c') s8)
        generalize upd H10 tl (.tup (nums ns)) = G2 at s8 tlE dk8 bx8
        refine ⟨(by show 2 ≤ sizeLine; decide), fun q' hq' => ?_⟩
        have s9 := same_new (o := .tup [.int bg, .ref tl]) hq'
        exact q _ q' bg ns g here kk (bx8.trans (Bx.same s9)) (dk8.same s9) (by omega) ⟨tl, SqT.of upd_same, SqT.of (s9 _ _ tlE)⟩ bgx.1 hg wk8 (by omega)
      clear e1 e2 e3 e4 r1 r2 r3
      refine ⟨_, rfl, .inl ⟨rfl, _, SqL.of pl10⟩, _, rfl, _, rfl, d, c', kk, dk10, by omega, .inl ⟨E, nums is, rfl, nE.2, dE, (by rw [nums_len]; exact List.length_pos_iff.mpr h0), (by rw [nums_len]; omega), fun H11 v hv dk11 bx11 => ?_⟩⟩
      obtain ⟨z, hz, rfl⟩ := List.mem_map.mp (show v ∈ is.map V.int from hv)
      obtain ⟨z0, m, hm, hms⟩ := ix z hz
      have zl := (List.getElem?_eq_some_iff.mp hm).1
      have pl11 := bx11 _ _ pl10 npl.1 npl.2
      have al11 := bx11 _ _ al10 nal.1 nal.2
      have bx011 := bx10.trans bx11
      refine ⟨pl, _, _, rfl, rfl, pl11, big (by rw [nums_len]; omega), ?_⟩
      have ne1 : al ≠ pl := nalpl
      have pl12 : upd H11 pl (.lst (nums ns ++ [V.int z])) pl = some (.lst (nums (ns ++ [z]))) := by rw [upd_same, nums_snoc]
      have al12 : upd H11 pl (.lst (nums ns ++ [V.int z])) al = some (.lst (nums tr.us)) := by rw [upd_ne ne1]; exact al11
      have bx12 : Bx d c' H (upd H11 pl (.lst (nums ns ++ [V.int z]))) := Bx.wr bx011 pl0
      have dk12 : DeckAt (upd H11 pl (.lst (nums ns ++ [V.int z]))) d c' (kk + 1) := by
        obtain ⟨mm, cc, q1, q2, q3⟩ := dk11
        exact ⟨mm, cc, by rw [upd_ne npl.1.symm]; exact q1, by rw [upd_ne npl.2.symm]; exact q2, q3⟩
      generalize upd H11 pl (.lst (nums ns ++ [V.int z])) = H12 at pl12 al12 bx12 dk12
      obtain ⟨i1, y, o, iv, yv, ov, e1, e2, e3, e4, r1, r2, r3⟩ := ht H12 bx12
      obtain ⟨a, ha, hrow⟩ := r2.2 _ _ hm
      have last : atI (nums (ns ++ [z])) (-1) = some (.int z) := nums_last (by simp)
      refine ⟨_, rfl, wa, _, rfl, wget_ways e1, _, rfl, 1, rfl, pl, _, _, _, rfl, rfl, SqL.of pl12, last, y, _, _, _, rfl, rfl, SqL.of e3, atI_int z0 ha, _, _, _, _, rfl, rfl, hrow, rfl, ?_⟩
      refine ⟨_, _, _, _, m.t, ns ++ [z], _, rfl, bx12, dk12, by omega, pl12, al12, ?_, by simp; omega⟩
      rw [wk_snoc, wk8]
      unfold stepF
      rw [Option.bind_some, if_pos ⟨z0, by omega⟩, hm, Option.bind_some, if_pos hms]
    | cons j0 is0 =>
      refine iteT ?_
      generalize hjs : j0 :: is0 = js at d2 il ix
      have jne : js ≠ [] := by rw [← hjs]; simp
      clear hjs j0 is0
      have dkX := dk1.same s2
      refine ⟨_, rfl, _, rfl, d, c', k, dkX, by omega, .inl ⟨D, nums js, rfl, nD.2, d2, (by rw [nums_len]; exact List.length_pos_iff.mpr jne), (by rw [nums_len]; exact (by omega)), fun H4 v hv dk4 bx4 => ?_⟩⟩
      obtain ⟨bg, hbg, rfl⟩ := List.mem_map.mp (show v ∈ js.map V.int from hv)
      have bgx := ix bg hbg
      obtain ⟨g, hg⟩ : ∃ g, tr.bs[bg.toNat]? = some g := ⟨_, List.getElem?_eq_getElem (by omega)⟩
      have bx04 : Bx d c' H H4 := (bx1.trans (Bx.same s2)).trans bx4
      have al4 := bx4 _ _ (s2 _ _ al1) nal.1 nal.2
      clear dkX hv hbg
      obtain ⟨i1, y, o, iv, yv, ov, e1, e2, e3, e4, r1, r2, r3⟩ := ht H4 bx04
      obtain ⟨ga, hga, hrow⟩ := r1.2 _ _ hg
      refine ⟨_, rfl, wa, _, rfl, wget_in e1, _, rfl, i1, _, _, _, rfl, rfl, SqL.of e2, atI_int bgx.1 hga, _, _, _, _, rfl, rfl, hrow, rfl, Nat.zero_le _, fun pl hpl => ?_⟩
      have s5 := same_new (o := .lst []) hpl
      have pE : upd H4 pl (.lst []) pl = some (.lst []) := upd_same
      have npl := dk4.new hpl
      have pl0 : H pl = none := by
        cases e : H pl with
        | none => rfl
        | some oo =>
          have := bx04 _ _ e npl.1 npl.2
          rw [hpl] at this
          cases this
      have bx05 := bx04.trans (Bx.same (wa := d) (ra := c') s5)
      have al5 := s5 _ _ al4
      have dk5 := dk4.same s5
      generalize upd H4 pl (.lst []) = H5 at s5 pE bx05 al5 dk5
      refine ⟨(by show 2 ≤ sizeLine; decide), fun tp htp => ?_⟩
      have s6 := same_new (o := .tup [.int g.s, .ref pl]) htp
      have tE : upd H5 tp (.tup [.int g.s, .ref pl]) tp = some (.tup [.int g.s, .ref pl]) := upd_same
      have nalpl : al ≠ pl := ne_of_none al4 hpl
      have pE6 := s6 _ _ pE
      have al6 := s6 _ _ al5
      have dk6 := dk5.same s6
      have bx06 := bx05.trans (Bx.same (wa := d) (ra := c') s6)
      generalize upd H5 tp (.tup [.int g.s, .ref pl]) = H6 at s6 tE pE6 al6 dk6 bx06
      clear pE al5 dk5 bx05 dk4 bx04 al4 s5 e1 e2 e3 e4 r1 r2 r3 hrow hga
      refine ⟨tp, _, rfl, SqT.of tE, rfl, _, _, rfl, _, _, rfl, rfl, ?_⟩
      refine ⟨_, rfl, _, rfl, _, _, rfl, rfl, d, c', k + 1, b + 1, rfl, dk6, by omega, by omega, by omega, fun H7 r r0 r1 dk7 bx7 => ?_⟩
      have pE7 := bx7 _ _ pE6 npl.1 npl.2
      have al7 := bx7 _ _ al6 nal.1 nal.2
      have bx07 := bx06.trans bx7
      unfold tNil
      refine ⟨r, rfl, by omega, by omega, for_range (lo := 0) (n := r.toNat) (fun i σ H' => ∃ x6 x9 x10 x11 here ns kk, σ = [some (.ref d), some (.ref wa), some (.int b), some (.ref al), some (.ref D), some (.int bg), x6, some (.int here), some (.ref pl), x9, x10, x11] ∧ Bx d c' H H' ∧ DeckAt H' d c' kk ∧ kk ≤ k + 2 + (i : Nat) ∧ H' pl = some (.lst (nums ns)) ∧ H' al = some (.lst (nums tr.us)) ∧ wk tr.ms g.s ns = some here ∧ ns.length ≤ i)
        ⟨_, _, _, _, _, [], _, rfl, bx07, dk7, by omega, pE7, al7, rfl, Nat.zero_le _⟩ ?_ ?_⟩
      rotate_left
      · rintro σ G ⟨x6, x9, x10, x11, here, ns, kk, rfl, bxG, dkG, hkk, plG, alG, wkG, nsl⟩
        refine ⟨_, rfl, _, rfl, pl, nums ns, rfl, .inl ⟨SqL.of plG, fun tl htl => ?_⟩⟩
        have s8 := same_new (o := .tup (nums ns)) htl
        have tlE : upd G tl (.tup (nums ns)) tl = some (.tup (nums ns)) := upd_same
        have dk8 := dkG.same s8
        have bx8 := bxG.trans (Bx.same (wa := d) (ra := c') s8)
        generalize upd G tl (.tup (nums ns)) = G2 at s8 tlE dk8 bx8
        refine ⟨(by show 2 ≤ sizeLine; decide), fun q' hq' => ?_⟩
        have s9 := same_new (o := .tup [.int bg, .ref tl]) hq'
        exact q _ q' bg ns g here kk (bx8.trans (Bx.same s9)) (dk8.same s9) (by omega) ⟨tl, SqT.of upd_same, SqT.of (s9 _ _ tlE)⟩ bgx.1 hg wkG (by omega)
      rintro i σ H8 hi ⟨x6, x9, x10, x11, here, ns, kk, rfl, bx8, dk8, hkk, pl8, al8, wk8, nsl⟩
      obtain ⟨i1, y, o, iv, yv, ov, e1, e2, e3, e4, r1, r2, r3⟩ := ht H8 bx8
      have yvl : yv.length = tr.ms.length := r2.1
      have ms9 := ok.ln.2.1
      refine ⟨_, rfl, wa, _, rfl, wget_ways e1, y, yv, rfl, SqL.of e3, fun E hE => lc_enumL (K := K) (a := y) (xs := yv) (fun j H' => Same H8 H' ∧ H8 E = none ∧ ∃ is, H' E = some (.lst (nums is)) ∧ is.length ≤ j ∧ ∀ z ∈ is, 0 ≤ z ∧ ∃ m, tr.ms[z.toNat]? = some m ∧ m.s = here)
        ⟨same_new hE, hE, [], upd_same, Nat.le_refl _, fun i h => (nomatch h)⟩ (fun i H' _ h => SqL.of (h.1 _ _ e3)) ?_ ?_⟩
      · rintro j x T H9 hx ⟨s9, d1, is, d2, il, ix⟩ hT
        obtain ⟨m, a, hm, rfl, hrow⟩ := r2.get hx
        have gl := (List.getElem?_eq_some_iff.mp hm).1
        have sT := same_new (o := .tup [.int (j : Nat), .ref a]) hT
        have eT : upd H9 T (.tup [.int (j : Nat), .ref a]) T = some (.tup [.int (j : Nat), .ref a]) := upd_same
        have s10 := s9.trans sT
        have d3 := sT _ _ d2
        generalize upd H9 T (.tup [.int (j : Nat), .ref a]) = H10 at sT eT s10 d3
        refine ⟨T, _, rfl, SqT.of eT, rfl, _, _, rfl, _, _, rfl, rfl, rfl, ?_⟩
        refine ⟨_, rfl, _, _, _, _, rfl, rfl, sqT_same hrow s10, rfl, _, rfl, rfl, _, rfl, ?_⟩
        have il1 : is.length ≤ j + 1 := by omega
        refine iteD (fun hs => ?_) (fun _ => iteF ⟨s10, d1, is, d3, il1, ix⟩)
        have hs' : m.s = here := by injection hs
        have lenS : (nums is).length < sizeLine := big (by rw [nums_len]; omega)
        have il2 : (is ++ [(j : Int)]).length ≤ j + 1 := by simp; omega
        have ix2 : ∀ z ∈ is ++ [(j : Int)], 0 ≤ z ∧ ∃ m, tr.ms[z.toNat]? = some m ∧ m.s = here := fun z hz => by
          rcases List.mem_append.mp hz with h | h
          · exact ix z h
          · rw [List.mem_singleton.mp h]
            exact ⟨by omega, m, by rw [Int.toNat_natCast]; exact hm, hs'⟩
        refine ⟨_, rfl, _, _, _, _, rfl, rfl, sqT_same hrow s10, rfl, _, rfl, m.t, tr.us, al, rfl, rfl, .inl (SqL.of (s10 _ _ al8)), _, rfl, ?_⟩
        refine iteD (fun _ => ?_) (fun _ => ?_)
        · refine iteT ?_
          exact ⟨_, rfl, _, d3, lenS, Same.wr s10 d1, d1, is ++ [(j : Int)], by rw [upd_same, nums_snoc], il2, ix2⟩
        refine ⟨_, rfl, Nat.zero_le _, fun e he => ?_⟩
        have s11 := s10.trans (same_new (o := .lst []) he)
        have d4 := same_new (o := .lst []) he _ _ d3
        have eE : upd H10 e (.lst []) e = some (.lst []) := upd_same
        generalize upd H10 e (.lst []) = H11 at s11 d4 eE
        refine ⟨_, .list [], dpL (SqL.of (s11 _ _ al8)), dpE eE, shaped_list _, shaped_list [], ?_⟩
        rw [eqv_lnil]
        refine ⟨_, rfl, ?_⟩
        refine iteD (fun _ => ?_) (fun _ => ?_)
        rotate_left
        · exact ⟨s11, d1, is, d4, il1, ix⟩
        exact ⟨_, rfl, _, d4, lenS, Same.wr s11 d1, d1, is ++ [(j : Int)], by rw [upd_same, nums_snoc], il2, ix2⟩
      rintro H9 ⟨s9, d1, is, d2, il, ix⟩
      have nE := dk8.new d1
      refine ⟨_, rfl, Nat.zero_le _, fun e he => ?_⟩
      have s10 := s9.trans (same_new (o := .lst []) he)
      have dE := same_new (o := .lst []) he _ _ d2
      have eE : upd H9 e (.lst []) e = some (.lst []) := upd_same
      generalize upd H9 e (.lst []) = H10 at s10 dE eE
      refine ⟨_, .list [], dpL (SqL.of dE), dpE eE, shaped_list _, shaped_list [], ?_⟩
      rw [eqv_lnil]
      refine ⟨_, rfl, ?_⟩
      have bx10 : Bx d c' H H10 := bx8.trans (Bx.same s10)
      have dk10 := dk8.same s10
      have pl10 := s10 _ _ pl8
      have al10 := s10 _ _ al8
      refine iteD (fun h0 => ?_) (fun h0 => ?_)
      · refine ⟨_, rfl, _, rfl, pl, nums ns, rfl, .inl ⟨SqL.of pl10, fun tl htl => ?_⟩⟩
        have s8 := same_new (o := .tup (nums ns)) htl
        have tlE : upd H10 tl (.tup (nums ns)) tl = some (.tup (nums ns)) := upd_same
        have dk8 := dk10.same s8
        have bx8 := bx10.trans (Bx.same (wa := d) (ra := c') s8)
        generalize upd H10 tl (.tup (nums ns)) = G2 at s8 tlE dk8 bx8
        refine ⟨(by show 2 ≤ sizeLine; decide), fun q' hq' => ?_⟩
        have s9 := same_new (o := .tup [.int bg, .ref tl]) hq'
        exact q _ q' bg ns g here kk (bx8.trans (Bx.same s9)) (dk8.same s9) (by omega) ⟨tl, SqT.of upd_same, SqT.of (s9 _ _ tlE)⟩ bgx.1 hg wk8 (by omega)
      clear e1 e2 e3 e4 r1 r2 r3
      refine ⟨_, rfl, .inl ⟨rfl, _, SqL.of pl10⟩, _, rfl, _, rfl, d, c', kk, dk10, by omega, .inl ⟨E, nums is, rfl, nE.2, dE, (by rw [nums_len]; exact List.length_pos_iff.mpr h0), (by rw [nums_len]; omega), fun H11 v hv dk11 bx11 => ?_⟩⟩
      obtain ⟨z, hz, rfl⟩ := List.mem_map.mp (show v ∈ is.map V.int from hv)
      obtain ⟨z0, m, hm, hms⟩ := ix z hz
      have zl := (List.getElem?_eq_some_iff.mp hm).1
      have pl11 := bx11 _ _ pl10 npl.1 npl.2
      have al11 := bx11 _ _ al10 nal.1 nal.2
      have bx011 := bx10.trans bx11
      refine ⟨pl, _, _, rfl, rfl, pl11, big (by rw [nums_len]; omega), ?_⟩
      have ne1 : al ≠ pl := nalpl
      have pl12 : upd H11 pl (.lst (nums ns ++ [V.int z])) pl = some (.lst (nums (ns ++ [z]))) := by rw [upd_same, nums_snoc]
      have al12 : upd H11 pl (.lst (nums ns ++ [V.int z])) al = some (.lst (nums tr.us)) := by rw [upd_ne ne1]; exact al11
      have bx12 : Bx d c' H (upd H11 pl (.lst (nums ns ++ [V.int z]))) := Bx.wr bx011 pl0
      have dk12 : DeckAt (upd H11 pl (.lst (nums ns ++ [V.int z]))) d c' (kk + 1) := by
        obtain ⟨mm, cc, q1, q2, q3⟩ := dk11
        exact ⟨mm, cc, by rw [upd_ne npl.1.symm]; exact q1, by rw [upd_ne npl.2.symm]; exact q2, q3⟩
      generalize upd H11 pl (.lst (nums ns ++ [V.int z])) = H12 at pl12 al12 bx12 dk12
      obtain ⟨i1, y, o, iv, yv, ov, e1, e2, e3, e4, r1, r2, r3⟩ := ht H12 bx12
      obtain ⟨a, ha, hrow⟩ := r2.2 _ _ hm
      have last : atI (nums (ns ++ [z])) (-1) = some (.int z) := nums_last (by simp)
      refine ⟨_, rfl, wa, _, rfl, wget_ways e1, _, rfl, 1, rfl, pl, _, _, _, rfl, rfl, SqL.of pl12, last, y, _, _, _, rfl, rfl, SqL.of e3, atI_int z0 ha, _, _, _, _, rfl, rfl, hrow, rfl, ?_⟩
      refine ⟨_, _, _, _, m.t, ns ++ [z], _, rfl, bx12, dk12, by omega, pl12, al12, ?_, by simp; omega⟩
      rw [wk_snoc, wk8]
      unfold stepF
      rw [Option.bind_some, if_pos ⟨z0, by omega⟩, hm, Option.bind_some, if_pos hms]
end
end K86
end
section
set_option maxHeartbeats 4000000
namespace K86
open PySem PySem.Spec PyProof.Rows L2
open C8 (Cal Met Mak pe_c pe_mk pe_mt pe_mt0)
section
variable {P : Program} {w : World} {K : PySem.W.Frag} {mg : Str → Option Value} {base : Heap}
/-! ### rows as data -/
def dB (b : Bg) : List PyData := [.int b.s, .str b.w]
def dM (m : Mv) : List PyData := [.int m.s, .str m.l, .str m.w, .int m.t]
theorem dp_rows {α : Type} {f : α → List V} {g : α → List PyData} (hg : ∀ (H : Hp) x, DpAll K H (f x) (g x)) {H : Hp} : ∀ {vs : List V} {xs : List α}, Rw f K H vs xs → DpAll K H vs (xs.map fun x => .tuple (g x))
  | [], [], _ => .nil
  | v :: vs, x :: xs, h => by
    obtain ⟨a, e, hs⟩ := h.2 0 x rfl
    cases e
    exact .cons (.tup hs (hg H x)) (dp_rows hg ⟨by have := h.1; simpa using this, fun i y hy => h.2 (i + 1) y hy⟩)
  | [], x :: xs, h => by have := h.1; simp at this
  | v :: vs, [], h => by have := h.1; simp at this
theorem layRows {α : Type} {F : α → PyData} : ∀ {xs : List α}, (∀ x ∈ xs, (F x).canLay0 = true ∧ (F x).depth ≤ 3) → PyData.canLayAll0 (xs.map F) = true ∧ PyData.depthAll (xs.map F) ≤ 3
  | [], _ => ⟨rfl, by simp [PyData.depthAll]⟩
  | x :: xs, h => by
    obtain ⟨h1, h2⟩ := layRows (xs := xs) fun y hy => h y (List.mem_cons_of_mem _ hy)
    obtain ⟨h3, h4⟩ := h x List.mem_cons_self
    refine ⟨by simp [PyData.canLayAll0, h1, h3], ?_⟩
    rw [List.map_cons, PyData.depthAll]
    omega
theorem word_lay {z : Str} (h : WordOk z) : (PyData.str z).canLay0 = true := by
  simp only [PyData.canLay0, PyData.strOk]
  refine Array.all_eq_true'.mpr fun c hc => ?_
  rcases h.2 c (by simpa using hc) with e | e <;> rw [e] <;> decide
theorem dB_lay {n : Int} {b : Bg} (h : BgOk n b) : (PyData.tuple (dB b)).canLay0 = true ∧ (PyData.tuple (dB b)).depth ≤ 3 := by
  have := word_lay h.2.2
  refine ⟨?_, by simp [dB, PyData.depth, PyData.depthAll]⟩
  unfold dB
  rw [PyData.canLay0, PyData.canLayAll0, PyData.canLayAll0, PyData.canLayAll0, this]
  rfl
theorem dM_lay {n : Int} {m : Mv} (h : MvOk n m) : (PyData.tuple (dM m)).canLay0 = true ∧ (PyData.tuple (dM m)).depth ≤ 3 := by
  have := word_lay h.2.2.2.2.1
  have hl : (PyData.str m.l).canLay0 = true := by rcases h.2.2.2.2.2 with e | e <;> rw [e, PyData.canLay0] <;> decide +kernel
  refine ⟨?_, by simp [dM, PyData.depth, PyData.depthAll]⟩
  unfold dM
  rw [PyData.canLay0, PyData.canLayAll0, PyData.canLayAll0, PyData.canLayAll0, PyData.canLayAll0, PyData.canLayAll0, this, hl]
  rfl
theorem shaped_rows {α : Type} {F : α → PyData} {xs : List α} (h : ∀ x ∈ xs, (F x).canLay0 = true ∧ (F x).depth ≤ 3) : SeqAt.shaped (.tuple (xs.map F)) = true := by
  obtain ⟨h1, h2⟩ := layRows h
  unfold SeqAt.shaped
  rw [PyData.canLay0, PyData.depth, h1]
  simp
  omega
theorem tyTr (c : Cn K mg) {H : Hp} {t : Addr} {tr : Tr} (h : TrAt K H t tr) : TyX K H (.ref t) (.ref (aTr K)) := by
  obtain ⟨⟨dx, b, m, e', u, L, bv, mv, ev, h1, _⟩, _⟩ := h
  have x := Cn.extra c
  unfold extra at x
  simp only [Bool.and_eq_true, decide_eq_true_eq] at x
  obtain ⟨⟨⟨⟨x1, x2⟩, x3⟩, x4⟩, x5⟩ := x
  exact .base (.ins h1 (cl_Translator c) (He.eqO_ok x1) (He.eqO_ok x2) x3 x4)
theorem kitTr (c : Cn K mg) : PySem.W.kitOne K (.ref (aTr K)) (.ref (aTr K)) = some true := by
  have x := Cn.extra c
  unfold extra at x
  simp only [Bool.and_eq_true, decide_eq_true_eq] at x
  exact x.2
def N_Translator_eq : List Str := ["self", "other"]
theorem sc_Translator_eq : FnScope N_Translator_eq ["self", "other"] (defScope s_Translator_eq) := ⟨rfl, rfl, rfl, by decide +kernel, rfl, by decide +kernel, by decide +kernel⟩
def sp_Translator_eq (K : PySem.W.Frag) : Sp := fun vs H Q _ => ∃ (a b : Addr) (tr : Tr), vs = [.ref a, .ref b] ∧ TrAt K H a tr ∧ TrAt K H b tr ∧ (∀ g ∈ tr.bs, BgOk tr.n g) ∧ (∀ g ∈ tr.ms, MvOk tr.n g) ∧ (∀ g ∈ tr.es, BgOk tr.n g) ∧ ∀ H', Same H H' → Q (.bl true) H'
theorem M_Translator_eq (c : Cn K mg) : Met P w K mg base 1 (He.ga K "Translator") "__eq__" (sp_Translator_eq K) [] := by
  refine mkMet (F_Translator_eq c) (cl_Translator c) (me_Translator_eq c) sc_Translator_eq (fun _ _ _ _ _ _ us hl => match us, hl with | [_, _], _ => rfl) (fun vs H Q E h => ?_) (fun cdv A outer s H vs Q E hr h => ?_)
  · obtain ⟨a, b, tr, rfl, _⟩ := h
    rfl
  · obtain ⟨a, b, tr, rfl, ha, hb, ob, om, oe, q⟩ := h
    refine ⟨_, (pss_cons (ps_if (PW.pt (pw_or (pt_not (pt_val (pe_callB (isi K) (by rfl) (m_isinstance c) (by decide +kernel) (pa_cons (pv 1) (pa_cons (pe_glob (v := .ref (He.ga K "Translator")) rfl (g_Translator c) rfl) pa_nil))))) (pw_or (pt_cmpR op_ne (pe_states c (pv 0)) (pe_states c (pv 1)) (nomark _)) (pw_or1 (pt_cmpR (neD K hr.units) (pe_begins c (pv 0)) (pe_begins c (pv 1)) (nomark _))))))
        (pss_one (ps_ret pe_bl))
        pss_nil)
      (pss_one (ps_ret (pe_and (pe_cmpR (eqD K hr.units) (pe_moves c (pv 0)) (pe_moves c (pv 1)) (nomark _)) (pe_one (pe_cmpR (eqD K hr.units) (pe_ends c (pv 0)) (pe_ends c (pv 1)) (nomark _))))))), ?_⟩
    have shB := shaped_rows (F := fun x => PyData.tuple (dB x)) fun x hx => dB_lay (ob x hx)
    have shM := shaped_rows (F := fun x => PyData.tuple (dM x)) fun x hx => dM_lay (om x hx)
    have shE := shaped_rows (F := fun x => PyData.tuple (dB x)) fun x hx => dB_lay (oe x hx)
    have cB : ∀ (H : Hp) (x : Bg), DpAll K H (Bg.vs x) (dB x) := fun H x => .cons (.int _) (.cons (.str _) .nil)
    have cM : ∀ (H : Hp) (x : Mv), DpAll K H (Mv.vs x) (dM x) := fun H x => .cons (.int _) (.cons (.str _) (.cons (.str _) (.cons (.int _) .nil)))
    refine ⟨_, rfl, _, _, _, _, true, rfl, .own _, tyTr c hb, kitTr c, _, rfl, ?_⟩
    refine ⟨_, rfl, a, tr, rfl, ha, _, rfl, b, tr, rfl, hb, rfl, _, rfl, ?_⟩
    refine ifNT rfl ?_
    refine ⟨_, rfl, a, tr, rfl, ha, fun b1 bv1 q1 w1 => ⟨_, rfl, b, tr, rfl, hb, fun b2 bv2 q2 w2 => ⟨_, _, .tup q1 (dp_rows cB w1), .tup q2 (dp_rows cB w2), shB, shB, ?_⟩⟩⟩
    rw [SeqAt.eqv_refl _ (SeqAt.canLay_of_shaped shB)]
    refine ⟨_, rfl, iteF ?_⟩
    refine ⟨_, rfl, a, tr, rfl, ha, fun b1 bv1 q1 w1 => ⟨_, rfl, b, tr, rfl, hb, fun b2 bv2 q2 w2 => ⟨_, _, .tup q1 (dp_rows cM w1), .tup q2 (dp_rows cM w2), shM, shM, ?_⟩⟩⟩
    rw [SeqAt.eqv_refl _ (SeqAt.canLay_of_shaped shM)]
    refine ⟨_, rfl, iteT ?_⟩
    refine ⟨_, rfl, a, tr, rfl, ha, fun b1 bv1 q1 w1 => ⟨_, rfl, b, tr, rfl, hb, fun b2 bv2 q2 w2 => ⟨_, _, .tup q1 (dp_rows cB w1), .tup q2 (dp_rows cB w2), shE, shE, ?_⟩⟩⟩
    rw [SeqAt.eqv_refl _ (SeqAt.canLay_of_shaped shE)]
    exact q _ (Same.refl _)
end
end K86
end
section
set_option maxHeartbeats 4000000
namespace K86
open PySem PySem.Spec PyProof.Rows L2
open C8 (Cal Met Mak pe_c pe_mk pe_mt pe_mt0)
section
variable {P : Program} {w : World} {K : PySem.W.Frag} {mg : Str → Option Value} {base : Heap}
/-! ### == of two Translators -/
def RTr (K : PySem.W.Frag) : Addr → Addr → Hp → Prop := fun a b H => ∃ tr, TrAt K H a tr ∧ TrAt K H b tr ∧ (∀ g ∈ tr.bs, BgOk tr.n g) ∧ (∀ g ∈ tr.ms, MvOk tr.n g) ∧ (∀ g ∈ tr.es, BgOk tr.n g)
theorem op_eqTr {X : Cx} {j : Nat} (K : PySem.W.Frag) {mg : Str → Option Value} (c : Cn K mg) (hr : Room j X.A) (hj : 1 ≤ j) (hK : X.K = K := by rfl) (hm : X.mg = mg := by rfl) : OpR X (compareOp .Eq) (rEqG (DIns (aTr K) (RTr K))) := by
  subst hK hm
  obtain ⟨f, fd, ps, ds, cl, me, F, b, d⟩ := (M_Translator_eq (P := X.prog) (w := X.w) (base := X.base) c).ex
  cases d
  have F' := F.imp (sp' := spEq (RTr X.K)) fun vs H Q E ⟨a, b, e, ⟨tr, h1, h2, h3, h4, h5⟩, q⟩ => ⟨a, b, tr, e, h1, h2, h3, h4, h5, q⟩
  exact op_eqG (rcG_ins (E := C8.E0) F' me.at_ me.fn b C8.pass0) (hr.mono hj)
end
end K86
end
section
set_option maxHeartbeats 4000000
namespace K86
open PySem PySem.Spec PyProof.Rows L2
/-! ### a def's promise where no repr is under way -/
structure FnG (P : Program) (w : World) (K : PySem.W.Frag) (mg : Str → Option Value) (base : Heap) (k : Nat) (f : Addr) (fd : FuncData) (ps : List Str) (sp : Sp) : Prop where
  len : ∀ vs H Q E, sp vs H Q E → vs.length = ps.length
  run : ∀ (A : Around) (outer : List Env) (s : Shared) (H : Hp) (args : Args) (us : List Value) (vs : List V) (Q : VK) (E : XK), A.guards = some [] → Room k A → Env0 P w K mg base A outer s H → BindsTo s fd args (ps.zip us) → Vals vs us → sp vs H Q E →
    codeAny (model P w) A (.call (.ref f) args) (CR CX0 outer P w H s Q E) s
section
variable {P : Program} {w : World} {K : PySem.W.Frag} {mg : Str → Option Value} {base : Heap}
theorem FunD.okG {x qual : Str} {params : Arguments} {body : List Stmt} {scope : Scope} {f : Addr} {fd : FuncData} {N ps : List Str} {k : Nat} {sp : Sp} (F : FunD K x qual params body scope [] [] f fd) (S : FnScope N ps scope) (len : ∀ vs H Q E, sp vs H Q E → vs.length = ps.length)
    (hbody : ∀ (cdv : Value) (A : Around) (outer : List Env) (s : Shared) (H : Hp) (vs : List V) (Q : VK) (E : XK), A.guards = some [] → Room k (A.deeper (envOfC qual scope s.heap.objs.size f cdv)) → sp vs H Q E →
      ∃ t, PSs (cxOf CX0 P w K mg base N qual scope f cdv A outer s H E).nox body t ∧ t { nx := fun _ H' => Q .non H', rt := Q } (start N vs) H) : FnG P w K mg base (k + 1) f fd ps sp := by
  obtain ⟨oc, od, dV, kV, doc, pm, an, cdv, ct, osl, rfl, lk, hcd, _, _⟩ := F.ex
  refine ⟨len, fun A outer s H args us vs Q E hgd hr e0 hb r hsp => ?_⟩
  have into : ∀ {b : Addr} {o : Obj}, base.get? b = some o → s.heap.get? b = some o := fun {b o} e => (e0.bs b o e).1
  have named : ∀ y ∈ ps.zip us, scope.names.lookup y.1 = some .local ∨ (scope.names.lookup y.1 = some .cell ∧ ((cellsFrom (s.heap.objs.size + 1) scope.names []).lookup y.1).isSome = true) := fun ⟨n, v⟩ hy =>
    (S.par n (List.of_mem_zip hy).1).imp id fun q => ⟨q, PySem.W.cellsFrom_some _ _ _ (.inl q)⟩
  have KX : K.In s.heap := e0.mod.kin.keeps fun b o e => into e
  refine codeAny_call_function hr.depth (KX _ _ lk) rfl S.co S.gen rfl (PySem.W.codeRec_of KX hcd) (hb _ _ _ _ (wpAny_newFunctionEnv_cells S.kind named fun env he s1 x => ?_))
  subst he
  refine ⟨(e0.mod.nolimit.keeps fun b o e => into e).keeps x.toInCall.keep, codeAny_func ?_⟩
  obtain ⟨t, ht, hq⟩ := hbody cdv A outer s H vs Q E hgd (hr.deeper _) hsp
  have I : Inv (cxOf CX0 P w K mg base N qual scope f cdv A outer s H E) [] (start N vs) H s1 := inv_start S hr.hd e0 (len _ _ _ _ hsp) r x
  refine wpAny_mono ((PSs.nox ht).run [] s1 (start N vs) H _ I hq) (fun fl s' hs => ?_) fun e s' hs => hs
  cases fl with
  | ret u =>
    obtain ⟨v, σ', H', J, rv, q⟩ := hs
    exact ⟨v, H', J.os, J.bare, J.base, J.hok, rv, q⟩
  | next =>
    obtain ⟨σ', H', J, q⟩ := hs
    exact ⟨.non, H', J.os, J.bare, J.base, J.hok, rfl, q⟩
  | brk => exact hs.elim fun _ h => h.elim fun _ h => h.2.elim
  | cont => exact hs.elim fun _ h => h.elim fun _ h => h.2.elim
end
section
variable {X : Cx} {k j : Nat} {x : Str} {f : Addr} {fd : FuncData} {ps : List Str} {sp : Sp} {p pos : Pos} {e : Expr} {es : List Expr} {t : TA}
/-- a call of such a def -/
theorem pe_cG (F : FnG X.prog X.w X.K X.mg X.base k f fd ps sp) (hgd : X.A.guards = some []) (hr : Room j X.A) (hk : k ≤ j) (hg : Gl X x) (hm : X.mg x = some (.ref f)) (kp : PySem.W.keepIn X.K (.ref f) = true) (hb : Binds X.K fd ps []) (ha : PA X (e :: es) t)
    (hdb : (x == ("__debug__" : Str)) = false := by decide) (he : starEach (e :: es) X.env = (false, eval e X.env) :: starEach es X.env := by rfl) (hpl : (backTo pos (starEach es X.env)).any (·.1) = false := by rfl) :
    PE X (.Call (.Name x p) (e :: es) [] pos) (tCall sp [] E0 t) := by
  refine ⟨fun pins s σ H Q I h => ?_⟩
  refine wpAny_Call_Name_kw (ld_glob I hg hm ?_ hdb)
  refine PySem.W.callWith_K (h₀ := X.base) I.ok.mod.kin kp (thn (ha.run pos pins s σ H _ I h) fun us s1 ⟨vs, H1, I1, r, q⟩ => ⟨I1.kIn, ?_⟩) he hpl
  have q' : sp (vs ++ []) H1 Q E0 := q
  rw [List.append_nil] at q'
  have b := hb s1 us I1.kIn (by rw [List.append_nil, ← r.length]; exact F.len _ _ _ _ q')
  rw [List.append_nil] at b
  refine wpAny_call (codeAny_mono (F.run X.A X.stack s1 H1 ⟨us, []⟩ us vs Q E0 hgd (hr.mono hk) I1.env0 b r q') fun r s' hq => ?_)
  cases r with
  | error e => exact hq.elim
  | ok fl =>
    cases fl with
    | ret u => exact I1.after hq
    | next => exact False.elim hq
    | brk => exact False.elim hq
    | cont => exact False.elim hq
end
end K86
end
section
set_option maxHeartbeats 4000000
namespace K86
open PySem PySem.Spec PyProof.Rows L2
/-! ### the law's end where no repr is under way -/
/-- from an abstract heap that tracks the script alone, or nothing -/
theorem coreG {P : Program} {w : World} {K : PySem.W.Frag} {mg mb : Str → Option Value} {k : Nat} {fa a : Addr} {fd : FuncData} {x : Str} {sp : Sp} {s₁ : Shared} {cls : Value} {vs : Array Value} {n0 : Nat}
    (KX : K.In s₁.heap) (hns : s₁.heap.Ns mainGlobals mg) (hb : s₁.heap.Ns builtinsNs mb) (hbb : ∀ x : Str, x ≠ "__name__" → mb x = bootBuiltins x) (hlim : s₁.heap.NoLimit) (hg : s₁.gens = #[])
    (ha : s₁.heap.get? a = some { cls := cls, data := .seq vs n0 }) (hr : Room k callerA)
    (F : ∀ base : Heap, K.In base → base.Ns mainGlobals mg → FnG P w K mg base k fa fd [x] sp) (hbind : ∀ (s : Shared) (u : Value), BindsTo s fd ⟨[u], []⟩ [(x, u)])
    (H : Hp) (hO : Only H) (hsp : sp [.ref a] H (fun v _ => v = .bl true) fun _ _ _ => False) (hok : HOk P w H s₁.heap) (hA : ∀ b, H b ≠ none → b = a) (hK : H a ≠ none → K.lookup a = none) :
    codeAny (model P w) callerA (.call (.ref fa) ⟨[.ref a], []⟩) (fun r s' => r = .ok (.ret (.bool true)) ∧ OldK s₁.heap s'.heap ∧ s'.os = s₁.os ∧ AllBare s'.gens) s₁ := by
  have free : ∀ {b : Addr}, b ≠ a → H b = none := fun {b} n => by
    cases q : H b with
    | none => rfl
    | some u => exact absurd (hA b (by rw [q]; exact nofun)) n
  have nsK : ∀ {b : Addr} {m : Str → Option Value}, s₁.heap.Ns b m → (hidT s₁.heap H).Ns b m := fun {b m} ⟨o, es, ep, e, d, r⟩ => by
    refine ⟨o, es, ep, hidT_get e (free fun z => ?_), d, r⟩
    subst z
    rw [ha] at e
    cases e
    exact absurd (show Data.seq vs n0 = Data.dict es ep from d) nofun
  have hKb : K.In (hidT s₁.heap H) := fun b o e => by
    refine hidT_get (KX b o e) ?_
    by_cases n : b = a
    · subst n
      cases q : H b with
      | none => rfl
      | some u =>
        rw [hK (by rw [q]; exact nofun)] at e
        cases e
    · exact free n
  have hM : Mod K mg (hidT s₁.heap H) := ⟨hKb, nsK hns, ⟨mb, nsK hb, hbb⟩, let ⟨mc, h1, h2⟩ := hlim; ⟨mc, nsK h1, h2⟩⟩
  have e0 : Env0 P w K mg (hidT s₁.heap H) callerA [] s₁ H := ⟨rfl, hM, fun b o e => of_hidT e, Nat.le_of_eq (hidT_size _ _), trivial, fun b hb => absurd (show b ∈ ([] : List Addr) from hb) (by simp), hok, .of_eq hg⟩
  refine codeAny_mono ((F _ hKb (nsK hns)).run callerA [] s₁ H ⟨[.ref a], []⟩ [.ref a] [.ref a] _ _ rfl hr e0 (hbind s₁ (.ref a)) (.cons rfl .nil) hsp) fun r s' h => ?_
  cases r with
  | error e => exact h.elim
  | ok fl =>
    cases fl with
    | next => exact False.elim h
    | brk => exact False.elim h
    | cont => exact False.elim h
    | ret u =>
      obtain ⟨v, H', os, bare, un, hok', r', q⟩ := h
      obtain rfl : v = .bl true := q
      obtain rfl : u = Value.bool true := r'
      refine ⟨rfl, OldK.of_keep fun b o e => ?_, os, bare⟩
      rcases hO b with z | ⟨ob, xs, z⟩
      · exact un.keep b o e z (by intro z; exact absurd (show b ∈ ([] : List Addr) from z) (by simp)) (by simp)
      · obtain ⟨e1, _⟩ := hok b _ z
        obtain ⟨e2, _⟩ := hok' b _ (un.frzs b ob _ z)
        rw [e] at e1
        cases e1
        exact e2
theorem lawG {P : Program} {w : World} {K : PySem.W.Frag} {mg mb : Str → Option Value} {k : Nat} {fa a : Addr} {fd : FuncData} {x : Str} {sp : Sp} {s₁ : Shared} {vs : List Value} {ns : List Int}
    (KX : K.In s₁.heap) (hns : s₁.heap.Ns mainGlobals mg) (hb : s₁.heap.Ns builtinsNs mb) (hbb : ∀ x : Str, x ≠ "__name__" → mb x = bootBuiltins x) (hlim : s₁.heap.NoLimit) (hg : s₁.gens = #[])
    (ha : s₁.heap.get? a = some { cls := .type "list", data := .seq vs.toArray }) (hi : IntsAre vs ns) (hl : ns.length ≤ sizeLine) (hr : Room k callerA)
    (F : ∀ base : Heap, K.In base → base.Ns mainGlobals mg → FnG P w K mg base k fa fd [x] sp) (hbind : ∀ (s : Shared) (u : Value), BindsTo s fd ⟨[u], []⟩ [(x, u)])
    (hsp : ∀ H : Hp, Only H → SqL K H a (ns.map V.int) → sp [.ref a] H (fun v _ => v = .bl true) fun _ _ _ => False) :
    codeAny (model P w) callerA (.call (.ref fa) ⟨[.ref a], []⟩) (fun r s' => r = .ok (.ret (.bool true)) ∧ OldK s₁.heap s'.heap ∧ s'.os = s₁.os ∧ AllBare s'.gens) s₁ := by
  have rv := vals_ints hi
  have hlen : (ns.map V.int).length ≤ sizeLine := by rw [List.length_map]; exact hl
  cases hk : K.lookup a with
  | some o =>
    have e := KX a o hk
    rw [ha] at e
    cases e
    have hO : Only (fun _ => none) := fun _ => .inl rfl
    refine coreG KX hns hb hbb hlim hg ha hr F hbind _ hO (hsp _ hO ?_) (fun b u z => by have z' : (none : Option HO) = some u := z; cases z') (fun b z => absurd rfl z) (fun z => absurd rfl z)
    exact .inr ⟨_, vs.toArray, _, hk, rfl, rfl, rfl, by rw [List.size_toArray, ← rv.length]; exact hlen, by simpa using rv⟩
  | none =>
    let H : Hp := fun b => if b = a then some (.frz { cls := .type "list", data := .seq vs.toArray } (.lst (ns.map V.int))) else none
    have at_ : H a = some (.frz { cls := .type "list", data := .seq vs.toArray } (.lst (ns.map V.int))) := if_pos rfl
    have off : ∀ b, b ≠ a → H b = none := fun b n => if_neg n
    have hO : Only H := fun b => by
      by_cases n : b = a
      · exact .inr ⟨_, _, n ▸ at_⟩
      · exact .inl (off b n)
    refine coreG KX hns hb hbb hlim hg ha hr F hbind H hO (hsp _ hO (.inl (.inr ⟨_, at_⟩))) (fun b u z => ?_) (fun b z => ?_) fun _ => hk
    · by_cases n : b = a
      · subst n
        rw [at_] at z
        cases z
        exact ⟨ha, hlen, vs, _, rv, ha⟩
      · rw [off b n] at z
        cases z
    · exact Classical.byContradiction fun n => z (off b n)
/-- the walk of the law's row -/
theorem walkG {l : PySem.W.OpenLaw} {n k : Nat} {q : Program} {loose : List Str} {XP : (Str → Option Value) → Heap → Prop} {YP : World → Heap → Prop} {d : DefRec} {x : Str}
    (hn : l.most = some n) (hn2 : n ≤ sizeLine) (hdf : d.params.defaults = []) (hr : Room k callerA)
    (F : ∀ (w : World) (mg : Str → Option Value) (fa : Addr) (h : Heap), YP w h → h.Ns mainGlobals mg → mg d.name = some (.ref fa) →
      ∃ (K : PySem.W.Frag) (fd : FuncData) (sp : Sp), K.In h ∧ (∀ (s : Shared) (u : Value), BindsTo s fd ⟨[u], []⟩ [(x, u)]) ∧
        (∀ (H : Hp) (a : Addr) (ns : List Int), ns.length ≤ n → Only H → SqL K H a (ns.map V.int) → sp [.ref a] H (fun v _ => v = .bl true) fun _ _ _ => False) ∧
        ∀ base : Heap, K.In base → base.Ns mainGlobals mg → FnG l.prog w K mg base k fa fd [x] sp) :
    PySem.W.WalkO q loose XP YP l.row.toRowW d [] (fun f vs => PySem.call f vs) := by
  refine Att.attach_call hn hdf fun w s₀ s₁ mg mb fa o pm cd doc a vs ns G Y ho hd hcd hmg hobj hints hlen hg => ?_
  obtain ⟨K, fd, sp, KX, hb, hsp, hF⟩ := F w mg fa _ Y G.T.g hmg
  exact lawG KX G.T.g G.T.b G.T.builtins G.T.nolimit hg hobj hints (Nat.le_trans hlen hn2) hr hF hb fun H hO hS => hsp H a ns hlen hO hS
end K86
end
section
set_option maxHeartbeats 4000000
namespace K86
open PySem PySem.Spec PyProof.Rows L2
/-! ### repr of a list or a tuple of data -/
def rRepr (K : PySem.W.Frag) : List V → Hp → VK → Prop := fun xs H Q => ∃ (p : Addr) (d : PyData), xs = [.ref p] ∧ Dp K H (.ref p) d ∧ d.showable = true ∧ d.hasDict = false ∧ d.shown.length ≤ sizeLine ∧ d.depth ≤ 60 ∧ Q (.str d.shown) H
theorem reprG {X : Cx} (K : PySem.W.Frag) (hgd : X.A.guards = some []) (hu : X.A.units + 64 < cLine) (hK : X.K = K := by rfl) : CallR X (.builtin "repr") (rRepr K) := by
  subst hK
  intro pins s σ H xs us Q I r h
  obtain ⟨p, d, rfl, hd, h1, h2, h3, h4, q⟩ := h
  obtain ⟨u, rfl, rx⟩ := vals1 r
  obtain ⟨as, rd⟩ := Dp.reads I d _ _ hd rx
  obtain rfl : u = Value.ref p := rx
  exact repr_of_reads' rd h1 (fun z => by rw [h2] at z; cases z) hgd (by omega) (fun b o e => e) (fun h' u tk hk => ⟨.str d.shown, H, I.kept hk, ⟨_, rfl⟩, q⟩) h3
/-- a whole number that is told in few digits -/
def smallI (i : Int) : Prop := -1000 ≤ i ∧ i ≤ 1000
theorem small_fin : ∀ n : Fin 2001, decide ((PyData.shown (.int ((n.val : Int) - 1000))).length ≤ 13) && Nat.blt ((n.val : Int) - 1000).natAbs.log2 1920 = true := by decide +kernel
theorem small_ok {i : Int} (h : smallI i) : (PyData.shown (.int i)).length ≤ 13 ∧ i.natAbs.log2 < 1920 := by
  obtain ⟨h1, h2⟩ := h
  have e : ((⟨(i + 1000).toNat, by omega⟩ : Fin 2001).val : Int) - 1000 = i := by show (((i + 1000).toNat : Nat) : Int) - 1000 = i; omega
  have := small_fin ⟨(i + 1000).toNat, by omega⟩
  rw [e, Bool.and_eq_true] at this
  exact ⟨of_decide_eq_true this.1, Nat.le_of_ble_eq_true (of_decide_eq_true this.2)⟩
/-- None or a small whole number -/
def Leaf (d : PyData) : Prop := d = .none ∨ ∃ i, d = .int i ∧ smallI i
theorem leaf_lay {x : PyData} (h : Leaf x) : x.canLay0 = true ∧ x.depth ≤ 1 ∧ x.weight ≤ 1920 := by
  rcases h with rfl | ⟨i, rfl, hi⟩
  · exact ⟨by simp [PyData.canLay0], by simp [PyData.depth], by simp [PyData.weight]⟩
  · obtain ⟨a1, a2⟩ := small_ok hi
    refine ⟨by simp [PyData.canLay0], by simp [PyData.depth], ?_⟩
    unfold PyData.weight
    split <;> omega
theorem repr_ints {i j : Int} (hi : smallI i) (hj : smallI j) : (PyData.list [.int i, .int j]).showable = true ∧ (PyData.list [.int i, .int j]).hasDict = false ∧ (PyData.list [.int i, .int j]).shown.length ≤ sizeLine ∧ (PyData.list [.int i, .int j]).depth ≤ 60 := by
  obtain ⟨a1, a2⟩ := small_ok hi
  obtain ⟨b1, b2⟩ := small_ok hj
  refine ⟨by simp [PyData.showable, PyData.showableAll, a2, b2], by simp [PyData.hasDict, PyData.hasDictAll], ?_, by simp [PyData.depth, PyData.depthAll]⟩
  obtain ⟨l1, l2, l3⟩ := leaf_lay (.inr ⟨i, rfl, hi⟩)
  obtain ⟨m1, m2, m3⟩ := leaf_lay (.inr ⟨j, rfl, hj⟩)
  have lay : PyData.layable0 (.list [.int i, .int j]) = true := by
    unfold PyData.layable0
    rw [Bool.and_eq_true, Bool.and_eq_true, decide_eq_true_eq, decide_eq_true_eq]
    refine ⟨⟨by simp [PyData.canLay0, PyData.canLayAll0, l1, m1], by simp only [PyData.depth, PyData.depthAll]; omega⟩, ?_⟩
    rw [PyData.weight, PyData.weightAll, PyData.weightAll, PyData.weightAll, show (2 : Nat) ^ 20 = 1048576 by decide]
    omega
  have := shown_le13 (d := .list [.int i, .int j]) lay (by simp [PyData.intsShort, PyData.intsShortAll, a1, b1])
  exact Nat.le_trans this (by decide)
theorem repr_pairs {a b c d : PyData} (ha : Leaf a) (hb : Leaf b) (hc : Leaf c) (hd : Leaf d) : (PyData.list [.tuple [a, b], .tuple [c, d]]).showable = true ∧ (PyData.list [.tuple [a, b], .tuple [c, d]]).hasDict = false ∧ (PyData.list [.tuple [a, b], .tuple [c, d]]).shown.length ≤ sizeLine ∧ (PyData.list [.tuple [a, b], .tuple [c, d]]).depth ≤ 60 := by
  have leaf : ∀ {x : PyData}, Leaf x → x.showable = true ∧ x.hasDict = false ∧ x.intsShort 13 = true ∧ x.depth ≤ 1 := fun {x} h => by
    rcases h with rfl | ⟨i, rfl, hi⟩
    · exact ⟨rfl, rfl, rfl, by simp [PyData.depth]⟩
    · obtain ⟨a1, a2⟩ := small_ok hi
      exact ⟨by simp [PyData.showable, a2], rfl, by simp [PyData.intsShort, a1], by simp [PyData.depth]⟩
  obtain ⟨a1, a2, a3, a4⟩ := leaf ha
  obtain ⟨b1, b2, b3, b4⟩ := leaf hb
  obtain ⟨c1, c2, c3, c4⟩ := leaf hc
  obtain ⟨d1, d2, d3, d4⟩ := leaf hd
  refine ⟨by simp [PyData.showable, PyData.showableAll, a1, b1, c1, d1], by simp [PyData.hasDict, PyData.hasDictAll, a2, b2, c2, d2], ?_, by simp only [PyData.depth, PyData.depthAll]; omega⟩
  have lay : PyData.layable0 (.list [.tuple [a, b], .tuple [c, d]]) = true := by
    obtain ⟨l1, l2, l3⟩ := leaf_lay ha
    obtain ⟨m1, m2, m3⟩ := leaf_lay hb
    obtain ⟨n1, n2, n3⟩ := leaf_lay hc
    obtain ⟨o1, o2, o3⟩ := leaf_lay hd
    unfold PyData.layable0
    rw [Bool.and_eq_true, Bool.and_eq_true, decide_eq_true_eq, decide_eq_true_eq]
    refine ⟨⟨by simp [PyData.canLay0, PyData.canLayAll0, l1, m1, n1, o1], by simp only [PyData.depth, PyData.depthAll]; omega⟩, ?_⟩
    simp only [PyData.weight, PyData.weightAll]
    rw [show (2 : Nat) ^ 20 = 1048576 by decide]
    omega
  have := shown_le13 lay (by simp [PyData.intsShort, PyData.intsShortAll, a3, b3, c3, d3])
  exact Nat.le_trans this (by decide)
end K86
end
section
set_option maxHeartbeats 4000000
namespace K86
open PySem PySem.Spec PyProof.Rows L2
/-! ### what leads tells and what _law_most tells are the same -/
def DueIs (tr : Tr) (sg : Int) (v : V) : Prop := (v = .non ∧ ∀ wf, ¬ FarS tr sg wf) ∨ ∃ f, FarD tr sg f ∧ (((∀ s, f s = none) ∧ v = .int 0) ∨ ∃ m, v = .int (sg * m) ∧ (∃ s, f s = some m) ∧ ∀ s x, f s = some x → x ≤ m)
theorem lead_due {tr : Tr} {sg : Int} {v v' : V} (hs : sg = 1 ∨ sg = -1) (h : LeadIs tr sg v) (h' : DueIs tr sg v') : v = v' := by
  rcases h with ⟨rfl, b, pre, lp, g, u, r⟩ | ⟨wf, m, rfl, D, ⟨s, hm⟩, le⟩
  · rcases h' with ⟨rfl, _⟩ | ⟨f, F, _⟩
    · rfl
    · exact (F.rise r).elim
  · rcases h' with ⟨rfl, no⟩ | ⟨f, F, h'⟩
    · exact (no wf D.farS).elim
    · have e := F.eq D.farS.d
      subst e
      rcases h' with ⟨no, _⟩ | ⟨m', rfl, ⟨s', hm'⟩, le'⟩
      · rw [no s] at hm
        cases hm
      · have a1 := le' s _ hm
        have a2 := le s' _ hm'
        have : m' = sg * m := by omega
        subst this
        rcases hs with rfl | rfl
        · rw [Int.one_mul, Int.one_mul]
        · rw [show (-1 : Int) * (-1 * m) = m by omega]
theorem due_none {tr : Tr} {sg : Int} {v : V} (h : tr.us = []) (h' : DueIs tr sg v) : v = .int 0 := by
  rcases h' with ⟨_, no⟩ | ⟨f, F, ⟨_, rfl⟩ | ⟨m, _, ⟨s, hm⟩, _⟩⟩
  · exact (no _ (FarS.zero h)).elim
  · rfl
  · obtain ⟨g, ns, u, _⟩ := F.att s m hm
    have := u.end
    rw [h] at this
    cases this
theorem lead_le {tr : Tr} (ok : TrOk tr) (i : Int) : -9 ≤ leadAt tr i ∧ leadAt tr i ≤ 9 := by
  unfold leadAt
  split
  · rename_i m e
    have := ok.mw m (List.mem_of_getElem? e)
    omega
  · omega
theorem path_le {tr : Tr} (ok : TrOk tr) : ∀ ns : List Int, -9 * (ns.length : Int) ≤ pathLead tr ns ∧ pathLead tr ns ≤ 9 * (ns.length : Int)
  | [] => by unfold pathLead; simp
  | i :: ns => by
    have ih := path_le ok ns
    have l := lead_le ok i
    have e : pathLead tr (i :: ns) = leadAt tr i + pathLead tr ns := by unfold pathLead; simp
    rw [e, List.length_cons]
    have : ((ns.length + 1 : Nat) : Int) = (ns.length : Int) + 1 := by omega
    rw [this]
    omega
/-- what leads tells is small -/
theorem lead_small {tr : Tr} {sg : Int} {v : V} (ok : TrOk tr) (hs : sg = 1 ∨ sg = -1) (h : LeadIs tr sg v) : v = .non ∨ ∃ m, v = .int m ∧ -1000 ≤ m ∧ m ≤ 1000 := by
  rcases h with ⟨rfl, _⟩ | ⟨wf, m, rfl, D, ⟨s, hm⟩, _⟩
  · exact .inl rfl
  · obtain ⟨g, ns, u, e, hl⟩ := D.farS.sh _ _ hm
    have b := ok.bw g u.bg
    have p := path_le ok ns
    have us9 := ok.ln.2.2
    have e' : m = (g.w.length : Int) + pathLead tr ns := by
      unfold worth at e
      rcases hs with rfl | rfl <;> omega
    exact .inr ⟨m, rfl, by omega, by omega⟩
end K86
end
section
set_option maxHeartbeats 4000000
namespace K86
open PySem PySem.Spec PyProof.Rows L2
/-! ### each useful state is met on a useful way -/
theorem usf_re {tr : Tr} (u : Usf tr.bs tr.ms tr.es tr.us) : Re tr := by
  have go : ∀ s, Reach (fw tr.ms) (st tr.bs) s → Reach (bw tr.ms) (st tr.es) s → ∃ g ∈ tr.bs, ∃ ns, wk tr.ms g.s ns = some s ∧ ∀ x ∈ trail tr.ms g.s ns, x ∈ tr.us := by
    intro s h
    induction h with
    | @base x hx =>
      intro hb
      obtain ⟨g, hg, e⟩ := List.mem_map.mp hx
      refine ⟨g, hg, [], by rw [← e]; rfl, fun y hy => ?_⟩
      have : y = g.s := by simpa [trail] using hy
      rw [this, e]
      exact (u.2 x).mpr ⟨.base hx, hb⟩
    | @step x y hx hp ih =>
      intro hb
      obtain ⟨m, hm, e⟩ := List.mem_map.mp hp
      have e1 : m.s = x := congrArg Prod.fst e
      have e2 : m.t = y := congrArg Prod.snd e
      have hbx : Reach (bw tr.ms) (st tr.es) x := .step hb (List.mem_map.mpr ⟨m, hm, by rw [e1, e2]⟩)
      obtain ⟨g, hg, ns, hw, hu⟩ := ih hbx
      obtain ⟨i, hi⟩ := List.mem_iff_getElem?.mp hm
      have il := (List.getElem?_eq_some_iff.mp hi).1
      have hi' : tr.ms[((i : Int)).toNat]? = some m := by rw [Int.toNat_natCast]; exact hi
      refine ⟨g, hg, ns ++ [(i : Int)], ?_, fun z hz => ?_⟩
      · rw [wk_snoc, hw]
        unfold stepF
        rw [Option.bind_some, if_pos ⟨by omega, by omega⟩, hi', Option.bind_some, if_pos e1, e2]
      · rw [trail_snoc] at hz
        rcases List.mem_append.mp hz with h | h
        · exact hu z h
        · have : z = tgt tr.ms (i : Int) := by simpa using h
          have e3 : tgt tr.ms (i : Int) = y := by unfold tgt; rw [hi']; exact e2
          rw [this, e3]
          exact (u.2 y).mpr ⟨.step hx hp, hb⟩
  exact fun s hs => go s ((u.2 s).mp hs).1 ((u.2 s).mp hs).2
end K86
end
section
set_option maxHeartbeats 4000000
namespace K86
open PySem PySem.Spec PyProof.Rows L2
/-! ### what _law_right meets -/
/-- None or a small whole number -/
def SmV (v : V) : Prop := v = .non ∨ ∃ i, v = .int i ∧ smallI i
def dV (v : V) : PyData := match v with
  | .int i => .int i
  | _ => .none
section
variable {K : PySem.W.Frag} {H H' : Hp} {v lo hi : V} {tr : Tr}
theorem SmV.leaf (h : SmV v) : Leaf (dV v) := by
  rcases h with rfl | ⟨i, rfl, hi⟩
  · exact .inl rfl
  · exact .inr ⟨i, rfl, hi⟩
theorem SmV.dp (h : SmV v) (H : Hp) : Dp K H v (dV v) := by
  rcases h with rfl | ⟨i, rfl, hi⟩
  · exact .non
  · exact .int i
theorem leads_due {t : Addr} {Q : VK} {E : XK} (ht : TrAt K H t tr) (usf : Usf tr.bs tr.ms tr.es tr.us) (d1 : DueIs tr (-1) lo) (d2 : DueIs tr 1 hi)
    (q : SmV lo → SmV hi → ∀ H' a, Same H H' → SqT K H' a [lo, hi] → Q (.ref a) H') : sp_leads K [.ref t] H Q E := by
  refine ⟨t, tr, rfl, ht, usf_re usf, fun h0 H' a s sq => ?_, fun h0 H' a x y s sq l1 l2 => ?_⟩
  · have e1 := due_none h0 d1
    have e2 := due_none h0 d2
    subst e1 e2
    exact q (.inr ⟨0, rfl, by unfold smallI; omega⟩) (.inr ⟨0, rfl, by unfold smallI; omega⟩) H' a s sq
  · have e1 := lead_due (.inr rfl) l1 d1
    have e2 := lead_due (.inl rfl) l2 d2
    subst e1 e2
    have m1 := lead_small ht.ok (.inr rfl) l1
    have m2 := lead_small ht.ok (.inl rfl) l2
    refine q (m1.imp id fun ⟨m, a, b, c⟩ => ⟨m, a, b, c⟩) (m2.imp id fun ⟨m, a, b, c⟩ => ⟨m, a, b, c⟩) H' a s sq
/-- a pace, with what its head tells of what is due -/
def PapAt (K : PySem.W.Frag) (H : Hp) (a : Addr) (tr : Tr) : Prop :=
  (∃ r q b pre lp g u sg, SqT K H a [.str (sortOf sg), .ref r, .ref q] ∧ RunAt K H r b pre ∧ SqT K H q (nums lp) ∧ Rising tr sg b pre lp g u ∧ (sg = 1 ∨ sg = -1)) ∨
   (∃ p rv lo hi, SqT K H a [.str "between", .ref p] ∧ SqT K H p rv ∧ Rw nums K H rv (tr.us.map (row3 lo hi)) ∧ Bet tr lo hi)
theorem PapAt.same {a : Addr} (h : PapAt K H a tr) (s : Same H H') : PapAt K H' a tr := by
  rcases h with ⟨r, q, b, pre, lp, g, u, sg, h1, h2, h3, h4⟩ | ⟨p, rv, lo, hi, h1, h2, h3, h4⟩
  · exact .inl ⟨r, q, b, pre, lp, g, u, sg, sqT_same h1 s, h2.im (Im.same s), sqT_same h3 s, h4⟩
  · exact .inr ⟨p, rv, lo, hi, sqT_same h1 s, sqT_same h2 s, (Im.same s).rw h3, h4⟩
/-- its head, by what is due -/
def HeadOf (lo hi : V) (z : Str) : Prop := (z = "rises" ∧ hi = .non) ∨ (z = "falls" ∧ lo = .non) ∨ (z = "between" ∧ lo ≠ .non ∧ hi ≠ .non)
theorem due_rise {sg b : Int} {pre lp : List Int} {g : Bg} {u : Int} (r : Rising tr sg b pre lp g u) (d : DueIs tr sg v) : v = .non := by
  rcases d with ⟨e, _⟩ | ⟨f, F, _⟩
  · exact e
  · exact (F.rise r).elim
theorem due_done {sg : Int} {wf : Int → Option Int} (D : Done tr sg wf) (d : DueIs tr sg v) : v ≠ .non := by
  rcases d with ⟨_, no⟩ | ⟨f, F, ⟨_, e⟩ | ⟨m, e, _⟩⟩
  · exact (no wf D.farS).elim
  · rw [e]; exact nofun
  · rw [e]; exact nofun
theorem pace_due {t : Addr} {Q : VK} {E : XK} (ht : TrAt K H t tr) (usf : Usf tr.bs tr.ms tr.es tr.us) (d1 : DueIs tr (-1) lo) (d2 : DueIs tr 1 hi)
    (q : ∀ H' a z zs, Same H H' → PapAt K H' a tr → SqT K H' a (.str z :: zs) → HeadOf lo hi z → Q (.ref a) H') : sp_pace K [.ref t] H Q E := by
  refine ⟨t, tr, rfl, ht, usf_re usf, fun H' a r q' b pre lp g u sg s h1 h2 h3 ri hs => ?_, fun H' a p rv l h wl wh s h1 h2 h3 dl dh hw => ?_⟩
  · refine q H' a _ _ s (.inl ⟨r, q', b, pre, lp, g, u, sg, h1, h2, h3, ri, hs⟩) h1 ?_
    rcases hs with rfl | rfl
    · exact .inl ⟨rfl, due_rise ri d2⟩
    · exact .inr (.inl ⟨rfl, due_rise ri d1⟩)
  · exact q H' a _ _ s (.inr ⟨p, rv, l, h, h1, h2, h3, bet_of dl dh hw⟩) h1 (.inr (.inr ⟨rfl, due_done dl d1, due_done dh d2⟩))
end
end K86
end
section
set_option maxHeartbeats 4000000
namespace K86
open PySem PySem.Spec PyProof.Rows L2
open C8 (Cal Met Mak pe_c pe_mk pe_mt pe_mt0)
section
variable {P : Program} {w : World} {K : PySem.W.Frag} {mg : Str → Option Value} {base : Heap}
theorem due_of {H : Hp} {wa : Addr} {tr : Tr} {sg : Int} {Q : VK} {R : VK} {E E' : XK} (ht : WTr K H wa tr) (ok : TrOk tr) (le : tr.es.length ≤ 9) (usf : Usf tr.bs tr.ms tr.es tr.us) (hs : sg = 1 ∨ sg = -1) (hR : ∀ v H1, sp_law_most K [v, .int sg] H1 Q E' → R v H1)
    (q : ∀ H' v, Same H H' → DueIs tr sg v → Q v H') : sp_law_farthest K [.ref wa, .int sg] H R E := by
  refine ⟨wa, tr, sg, rfl, ht, ok, le, usf, hs, fun H' d D f s e dw F => hR _ _ ?_, fun H' s no => hR _ _ ?_⟩
  · refine ⟨_, sg, rfl, hs, .inr ⟨d, D, tr.us, f, rfl, e, dw, ok.ln.2.2, fun no H2 s2 => ?_, fun m hm hle H2 s2 => ?_⟩⟩
    · exact q _ _ (s.trans s2) (.inr ⟨f, F, .inl ⟨no, rfl⟩⟩)
    · exact q _ _ (s.trans s2) (.inr ⟨f, F, .inr ⟨m, rfl, hm, hle⟩⟩)
  · exact ⟨_, sg, rfl, hs, .inl ⟨rfl, q _ _ s (.inl ⟨rfl, no⟩)⟩⟩
theorem TrAt.bx {H H' : Hp} {d c t : Addr} {k : Int} {tr : Tr} (h : TrAt K H t tr) (dk : DeckAt H d c k) (x : Bx d c H H') : TrAt K H' t tr := by
  refine h.keep (dk.im x) fun C dx fs e => ?_
  obtain ⟨m, cs, h1, h2, _⟩ := dk
  exact x _ _ e (ne_of e h1 (by intro z; cases z)) (ne_of e h2 (by intro z; cases z))
theorem DeckAt.at_ {H H' : Hp} {d c p : Addr} {k : Int} {xs : List V} (h : H p = some (.tup xs)) (dk : DeckAt H d c k) (x : Bx d c H H') : H' p = some (.tup xs) := (dk.im x).1 _ _ h
theorem lead_sum {tr : Tr} (ok : TrOk tr) {g : Bg} {bg : Int} {is : List Int} (hg : tr.bs[bg.toNat]? = some g) (il : is.length ≤ 50) : leadOf tr bg is = (g.w.length : Int) + pathLead tr is ∧ smallI ((g.w.length : Int) + pathLead tr is) := by
  have p := path_le ok is
  have b := ok.bw g (List.mem_of_getElem? hg)
  refine ⟨?_, ?_⟩
  · unfold leadOf bgAt
    rw [hg]
  · unfold smallI
    omega
def sortsOf (lo hi : V) : List V := (if lo ≠ .non ∧ hi ≠ .non then [.str "between"] else []) ++ (if hi = .non then [.str "rises"] else []) ++ (if lo = .non then [.str "falls"] else [])
theorem head_in {lo hi : V} {z : Str} (h : HeadOf lo hi z) : inV (.str z) (sortsOf lo hi) = true := by
  unfold sortsOf
  rcases h with ⟨rfl, rfl⟩ | ⟨rfl, rfl⟩ | ⟨rfl, h1, h2⟩
  · by_cases e : lo = .non
    · rw [if_neg (by simp), if_pos rfl, if_pos e]; decide +kernel
    · rw [if_neg (by simp), if_pos rfl, if_neg e]; decide +kernel
  · by_cases e : hi = .non
    · rw [if_neg (by simp), if_pos rfl, if_pos e]; decide +kernel
    · rw [if_neg (by simp), if_pos rfl, if_neg e]; decide +kernel
  · rw [if_pos ⟨h1, h2⟩, if_neg h2, if_neg h1]; decide +kernel
theorem sorts_flat {lo hi : V} : (sortsOf lo hi).all flatV = true := by
  unfold sortsOf
  split <;> split <;> split <;> rfl
theorem sorts_eq {lo hi : V} : (if lo ≠ .non ∧ hi ≠ .non then [V.str "between"] else []) ++ (List.replicate (if decide (hi = .non) = true then (1 : Int) else 0).toNat [V.str "rises"]).flatten ++ (List.replicate (if decide (lo = .non) = true then (1 : Int) else 0).toNat [V.str "falls"]).flatten = sortsOf lo hi := by
  unfold sortsOf
  by_cases h1 : lo = .non <;> by_cases h2 : hi = .non <;> simp [h1, h2]
theorem repl_len (b : Bool) (z : V) : (List.replicate (if b = true then (1 : Int) else 0).toNat [z]).flatten.length ≤ 1 := by cases b <;> simp
def N_law_right : List Str := ["_law_deck_here", "_law_w", "_law_turn", "_law_sorts", "_law_paper", "_law_it", "_law_due", "_law_stroll", "_law_lead_now"]
theorem sc_law_right : FnScope N_law_right ["_law_deck_here", "_law_w"] (defScope s_law_right) := ⟨rfl, rfl, rfl, by decide +kernel, rfl, by decide +kernel, by decide +kernel⟩
def sp_law_right (K : PySem.W.Frag) : Sp := fun vs H Q _ => ∃ (d c' wa : Addr) (k n : Int) (bs : List Bg) (ms : List Mv) (es : List Bg), vs = [.ref d, .ref wa] ∧ DeckAt H d c' k ∧ k ≤ 80000 ∧ (∀ H', Bx d c' H H' → WAt K H' wa n bs ms es) ∧ WOk n bs ms es ∧
  ∀ H' k', Bx d c' H H' → DeckAt H' d c' k' → k' ≤ k + 300 → Q (.bl true) H'
theorem FG_law_right (c : Cn K mg) : ∃ fd, FunD K "_law_right" "_law_right" (defArgs s_law_right) (defBody s_law_right) (defScope s_law_right) [] [] (He.ga K "_law_right") fd ∧ FnG P w K mg base 9 (He.ga K "_law_right") fd ["_law_deck_here", "_law_w"] (sp_law_right K) := by
  obtain ⟨fd, F⟩ := F_law_right c
  refine ⟨fd, F, FunD.okG F sc_law_right (fun vs H Q E h => ?_) (fun cdv A outer s H vs Q E hgd hr h => ?_)⟩
  · obtain ⟨d, c', wa, k, n, bs, ms, es, rfl, _⟩ := h
    rfl
  · obtain ⟨d, c', wa, k, n, bs, ms, es, rfl, dk, hk, ht, ok, q⟩ := h
    have hu := hu_of hr
    refine ⟨_, (pss_cons (ps_par (i := 5) (j := 6) rfl sc_law_right.nd rfl rfl (by decide) rfl rfl (pa_cons (pe_c (C_law_code c) hr (by decide) rfl (pa_cons (pv 1) pa_nil)) (pa_cons (pe_tup (pa_cons (pe_c (C_law_most c) hr (by decide) rfl (pa_cons (pe_c (C_law_farthest c) hr (by decide) rfl (pa_cons (pv 1) (pa_cons (pe_un un_neg pe_int) pa_nil))) (pa_cons (pe_un un_neg pe_int) pa_nil))) (pa_cons (pe_c (C_law_most c) hr (by decide) rfl (pa_cons (pe_c (C_law_farthest c) hr (by decide) rfl (pa_cons (pv 1) (pa_cons pe_int pa_nil))) (pa_cons pe_int pa_nil))) pa_nil))) pa_nil)) (by rfl))
      (pss_cons (ps_if (pt_cmpR op_ne (pe_callB (reprG K hgd hr.units) (by rfl) (m_repr c) (by decide +kernel) (pa_cons (pe_lst (pa_cons (pe_c (C_leads c) hr (by decide) rfl (pa_cons (pv 5) pa_nil)) (pa_cons (pe_ck0 (CK_leads c) hr (by decide) rfl (pk_cons (pv 5) pk_nil)) pa_nil))) pa_nil)) (pe_callB (reprG K hgd hr.units) (by rfl) (m_repr c) (by decide +kernel) (pa_cons (pe_op op_rep (pe_lst (pa_cons (pv 6) pa_nil)) pe_int) pa_nil)) (nomark _))
        (pss_one (ps_ret pe_bl))
        pss_nil)
      (pss_cons (ps_for PassesOwn.never rfl (pi_range1 (by rfl) (m_range c) (pa_cons pe_int pa_nil)) (pg_name (i := 2) sc_law_right.nd rfl (.inl rfl))
        (pss_cons (ps_set (i := 7) sc_law_right.nd rfl (.inl rfl) (pe_c (C_law_strolled c) hr (by decide) rfl (pa_cons (pv 0) (pa_cons (pv 1) (pa_cons pe_int pa_nil)))))
        (pss_cons (ps_set (i := 8) sc_law_right.nd rfl (.inl rfl) (pe_op op_add (pe_callB call_len_str (by rfl) (m_len c) (by decide +kernel) (pa_cons (pe_ix (ixT K) (pe_ix (ixL K) (pe_dget hu (pv 1) pe_str (fun _ _ => rfl)) (pe_ix (ixT K) (pv 7) pe_int (fun _ _ => rfl)) (fun _ _ => rfl)) pe_int (fun _ _ => rfl)) pa_nil)) (pe_c (C_law_lead c) hr (by decide) rfl (pa_cons (pv 1) (pa_cons (pe_ix (ixT K) (pv 7) pe_int (fun _ _ => rfl)) pa_nil)))))
        (pss_one (ps_if (pt_cmpR op_ne (pe_callB (reprG K hgd hr.units) (by rfl) (m_repr c) (by decide +kernel) (pa_cons (pe_lst (pa_cons (pe_c (C_lead_of c) hr (by decide) rfl (pa_cons (pv 5) (pa_cons (pv 7) pa_nil))) (pa_cons (pe_ck0 (CK_lead_of c) hr (by decide) rfl (pk_cons (pv 7) (pk_cons (pv 5) pk_nil))) pa_nil))) pa_nil)) (pe_callB (reprG K hgd hr.units) (by rfl) (m_repr c) (by decide +kernel) (pa_cons (pe_op op_rep (pe_lst (pa_cons (pv 8) pa_nil)) pe_int) pa_nil)) (nomark _))
          (pss_one (ps_ret pe_bl))
          pss_nil)))))
      (pss_cons (ps_set (i := 3) sc_law_right.nd rfl (.inl rfl) (pe_ifExp (pt_cmpR (opNotIn K) pe_non (pv 6) (by rfl)) (pe_lst (pa_cons pe_str pa_nil)) (pe_lst pa_nil)))
      (pss_cons (ps_set (i := 3) sc_law_right.nd rfl (.inl rfl) (pe_op op_cat (pe_op op_cat (pv 3) (pe_op op_rep (pe_lst (pa_cons pe_str pa_nil)) (pe_callTy call_int1 (by rfl) (m_int c) (by decide +kernel) (pa_cons (pe_cmpR op_isN (pe_ix (ixT K) (pv 6) pe_int (fun _ _ => rfl)) pe_non (nomark _)) pa_nil)))) (pe_op op_rep (pe_lst (pa_cons pe_str pa_nil)) (pe_callTy call_int1 (by rfl) (m_int c) (by decide +kernel) (pa_cons (pe_cmpR op_isN (pe_ix (ixT K) (pv 6) pe_int (fun _ _ => rfl)) pe_non (nomark _)) pa_nil)))))
      (pss_cons (ps_for PassesOwn.never rfl (piT K (pe_tup (pa_cons (pe_c (C_pace c) hr (by decide) rfl (pa_cons (pv 5) pa_nil)) (pa_cons (pe_ck0 (CK_pace c) hr (by decide) rfl (pk_cons (pv 5) pk_nil)) pa_nil)))) (pg_name (i := 4) sc_law_right.nd rfl (.inl rfl))
        (pss_one (ps_if (PW.pt (pw_or (pt_not (pt_val (pe_c (C_law_is_pace c) hr (by decide) rfl (pa_cons (pv 1) (pa_cons (pv 4) pa_nil))))) (pw_or (pt_cmpR (opNotIn K) (pe_ix (ixT K) (pv 4) pe_int (fun _ _ => rfl)) (pv 3) (by rfl)) (pw_or1 (pt_cmpR op_notBl (pe_c (C_pace_holds c) hr (by decide) rfl (pa_cons (pv 5) (pa_cons (pv 4) pa_nil))) pe_bl (nomark _))))))
          (pss_one (ps_ret pe_bl))
          pss_nil)))
      (pss_one (ps_ret (pe_cmpR (op_eqTr K c hr (by decide)) (pv 5) (pe_c (C_law_code c) hr (by decide) rfl (pa_cons (pv 1) pa_nil)) (nomark _)))))))))), ?_⟩
    have ht0 := ht H (Bx.refl _)
    refine ⟨_, rfl, wa, n, bs, ms, es, rfl, ht0, ok, fun H1 t us s1 tt usf => ?_⟩
    have lb := ok.lb
    have lm := ok.lm
    have lE := ok.le
    have okb := ok.b
    have tok : TrOk ⟨n, bs, ms, es, us⟩ := tt.ok
    have le9 : es.length ≤ 9 := by omega
    refine ⟨_, rfl, 1, rfl, ?_⟩
    unfold tNil
    show sp_law_farthest K [V.ref wa, V.int (-1)] H1 _ _
    refine due_of (tr := ⟨n, bs, ms, es, us⟩) (sg := -1) (ht0.same s1) tok le9 usf (.inr rfl) (fun v H2 h => ⟨1, rfl, h⟩) fun H2 lo s2 due1 => ?_
    refine ⟨_, rfl, ?_⟩
    unfold tCons tC
    dsimp only
    show sp_law_farthest K [V.ref wa, V.int 1] H2 _ _
    refine due_of (K := K) (E' := C8.E0) (tr := ⟨n, bs, ms, es, us⟩) (sg := 1) (ht0.same (s1.trans s2)) tok le9 usf (.inl rfl) (fun v H3 h => h) fun H3 hi s3 due2 => ?_
    refine ⟨(by show 2 ≤ sizeLine; decide), fun p hp => ?_⟩
    have s4 := same_new (o := .tup [lo, hi]) hp
    have pE : upd H3 p (.tup [lo, hi]) p = some (.tup [lo, hi]) := upd_same
    generalize upd H3 p (.tup [lo, hi]) = H4 at s4 pE
    refine ⟨_, _, rfl, ?_⟩
    have s14 := (s2.trans s3).trans s4
    have tt4 := tt.same s14
    have s04 := s1.trans s14
    refine ⟨_, rfl, ?_⟩
    show sp_leads K [V.ref t] H4 _ _
    refine leads_due tt4 usf due1 due2 fun m1 m2 H5 a5 s5 q5 => ?_
    refine ⟨_, rfl, ?_⟩
    show sp_leads K [V.ref t] H5 _ _
    refine leads_due (tt4.same s5) usf due1 due2 fun _ _ H6 a6 s6 q6 => ?_
    refine ⟨(by show 2 ≤ sizeLine; decide), fun l hl => ?_⟩
    have s7 := same_new (o := .lst [.ref a5, .ref a6]) hl
    have lE : upd H6 l (.lst [.ref a5, .ref a6]) l = some (.lst [.ref a5, .ref a6]) := upd_same
    have q5' := sqT_same q5 (s6.trans s7)
    have q6' := sqT_same q6 s7
    have pE7 := (s5.trans (s6.trans s7)) _ _ pE
    have s07 := s04.trans (s5.trans (s6.trans s7))
    have tt7 := tt4.same (s5.trans (s6.trans s7))
    generalize upd H6 l (.lst [.ref a5, .ref a6]) = H7 at s7 lE q5' q6' pE7 s07 tt7
    have rp := repr_pairs m1.leaf m2.leaf m1.leaf m2.leaf
    refine ⟨l, .list [.tuple [dV lo, dV hi], .tuple [dV lo, dV hi]], rfl, .lst (SqL.of lE) (.cons (.tup q5' (.cons (m1.dp _) (.cons (m2.dp _) .nil))) (.cons (.tup q6' (.cons (m1.dp _) (.cons (m2.dp _) .nil))) .nil)), rp.1, rp.2.1, rp.2.2.1, rp.2.2.2, ?_⟩
    refine ⟨_, rfl, (by show 1 ≤ sizeLine; decide), fun e he => ?_⟩
    have s8 := same_new (o := .lst [.ref p]) he
    have eE : upd H7 e (.lst [.ref p]) e = some (.lst [.ref p]) := upd_same
    have pE8 := s8 _ _ pE7
    have s08 := s07.trans s8
    have tt8 := tt7.same s8
    generalize upd H7 e (.lst [.ref p]) = H8 at s8 eE pE8 s08 tt8
    refine ⟨e, 2, _, rfl, rfl, eE, by decide, by decide, (by show 1 * 2 ≤ sizeLine; decide), fun f hf => ?_⟩
    have s9 := same_new (o := .lst [.ref p, .ref p]) hf
    have fE : upd H8 f (.lst [.ref p, .ref p]) f = some (.lst [.ref p, .ref p]) := upd_same
    have pE9 := s9 _ _ pE8
    have s09 := s08.trans s9
    have tt9 := tt8.same s9
    show rRepr K [.ref f] (upd H8 f (.lst [.ref p, .ref p])) _
    generalize upd H8 f (.lst [.ref p, .ref p]) = H9 at s9 fE pE9 s09 tt9
    have dp : Dp K H9 (.ref p) (.tuple [dV lo, dV hi]) := .tup (SqT.of pE9) (.cons (m1.dp _) (.cons (m2.dp _) .nil))
    refine ⟨f, .list [.tuple [dV lo, dV hi], .tuple [dV lo, dV hi]], rfl, .lst (SqL.of fE) (.cons dp (.cons dp .nil)), rp.1, rp.2.1, rp.2.2.1, rp.2.2.2, ?_⟩
    refine ⟨rfl, _, rfl, ?_⟩
    refine ifNT rfl ?_
    have bx9 : Bx d c' H H9 := Bx.same s09
    have dk9 := dk.same s09
    clear q5 q6 q5' q6' lE fE eE s1 s2 s3 s4 s5 s6 s7 s8 s9 s14 s04 s07 s08 tt4 tt7 tt8 pE pE7 pE8 dp hl he hf hp
    refine ⟨3, rfl, by decide, by decide, for_range (lo := 0) (n := 3) (fun i σ H' => ∃ x2 x7 x8 kk, σ = [some (.ref d), some (.ref wa), x2, none, none, some (.ref t), some (.ref p), x7, x8] ∧ Bx d c' H H' ∧ DeckAt H' d c' kk ∧ kk ≤ k + 60 * (i : Nat) ∧ TrAt K H' t ⟨n, bs, ms, es, us⟩ ∧ H' p = some (.tup [lo, hi]))
      ⟨_, _, _, _, rfl, bx9, dk9, by omega, tt9, pE9⟩ ?_ ?_⟩
    · clear bx9 dk9 tt9 pE9 s09 H9
      rintro i σ H10 hi ⟨x2, x7, x8, kk, rfl, bx10, dk10, hkk, tt10, pE10⟩
      refine ⟨_, rfl, _, rfl, d, c', wa, kk, 10, ⟨n, bs, ms, es, us⟩, rfl, dk10, by omega, by decide, by decide, fun H' b => ht H' (bx10.trans b), tok, le9, usf, lb.2, fun H11 r bg is g z k11 bx11 dk11 hk11 ra bg0 hg wkz isl => ?_⟩
      have tt11 := tt10.bx dk10 bx11
      have pE11 := DeckAt.at_ pE10 dk10 bx11
      have bx011 := bx10.trans bx11
      obtain ⟨rp, h1, h2⟩ := ra.ex
      obtain ⟨i1, y, o, iv, yv, ov, e1, e2, e3, e4, r1, r2, r3⟩ := ht H11 bx011
      obtain ⟨a, ha, hrow⟩ := r1.2 _ _ hg
      have w9 := short (tok.bw g (List.mem_of_getElem? hg))
      have wi := wk_within (tr := ⟨n, bs, ms, es, us⟩) wkz
      obtain ⟨el, sm⟩ := lead_sum tok hg isl
      have bl : bg < bs.length := by
        have hl : bg.toNat < bs.length := (List.getElem?_eq_some_iff.mp hg).1
        omega
      refine ⟨_, rfl, wa, _, rfl, wget_in e1, _, rfl, _, _, _, _, rfl, rfl, h1, rfl, i1, _, _, _, rfl, rfl, SqL.of e2, atI_int bg0 ha, _, _, _, _, rfl, rfl, hrow, rfl, g.w, rfl, w9, ?_⟩
      refine ⟨_, rfl, _, rfl, _, _, _, _, rfl, rfl, h1, rfl, wa, rp, ⟨n, bs, ms, es, us⟩, is, rfl, ⟨i1, y, o, iv, yv, ov, e1, e2, e3, e4, r1, r2, r3⟩, tok.mw, h2, wi, big (by omega), fun H12 s12 => ?_⟩
      refine ⟨_, _, rfl, rfl, ?_⟩
      dsimp only
      have tt12 := tt11.same s12
      refine ⟨_, rfl, _, rfl, t, r, ⟨n, bs, ms, es, us⟩, bg, is, rfl, tt12, ra.im (Im.same s12), ⟨bg0, bl⟩, wi, big (by omega), fun H13 s13 => ?_⟩
      have s1213 := s12.trans s13
      refine ⟨_, rfl, _, rfl, t, r, ⟨n, bs, ms, es, us⟩, bg, is, rfl, tt12.same s13, ra.im (Im.same s1213), ⟨bg0, bl⟩, wi, big (by omega), fun H14 s14 => ?_⟩
      have s1214 := s1213.trans s14
      rw [el]
      generalize hv : (g.w.length : Int) + pathLead ⟨n, bs, ms, es, us⟩ is = v at sm
      have ri := repr_ints sm sm
      refine ⟨(by show 2 ≤ sizeLine; decide), fun l hl => ?_⟩
      have s15 := s1214.trans (same_new (o := .lst [.int v, .int v]) hl)
      have lE : upd H14 l (.lst [.int v, .int v]) l = some (.lst [.int v, .int v]) := upd_same
      generalize upd H14 l (.lst [.int v, .int v]) = H15 at s15 lE
      refine ⟨l, .list [.int v, .int v], rfl, .lst (SqL.of lE) (.cons (.int v) (.cons (.int v) .nil)), ri.1, ri.2.1, ri.2.2.1, ri.2.2.2, ?_⟩
      refine ⟨_, rfl, (by show 1 ≤ sizeLine; decide), fun e he => ?_⟩
      have s16 := s15.trans (same_new (o := .lst [.int v]) he)
      have eE : upd H15 e (.lst [.int v]) e = some (.lst [.int v]) := upd_same
      generalize upd H15 e (.lst [.int v]) = H16 at s16 eE
      refine ⟨e, 2, _, rfl, rfl, eE, by decide, by decide, (by show 1 * 2 ≤ sizeLine; decide), fun f hf => ?_⟩
      have s17 := s16.trans (same_new (o := .lst [.int v, .int v]) hf)
      have fE : upd H16 f (.lst [.int v, .int v]) f = some (.lst [.int v, .int v]) := upd_same
      show rRepr K [.ref f] (upd H16 f (.lst [.int v, .int v])) _
      generalize upd H16 f (.lst [.int v, .int v]) = H17 at s17 fE
      refine ⟨f, .list [.int v, .int v], rfl, .lst (SqL.of fE) (.cons (.int v) (.cons (.int v) .nil)), ri.1, ri.2.1, ri.2.2.1, ri.2.2.2, ?_⟩
      refine ⟨rfl, _, rfl, ?_⟩
      refine ifNT rfl ?_
      exact ⟨_, _, _, _, rfl, bx011.trans (Bx.same s17), dk11.same s17, by omega, tt11.same s17, s17 _ _ pE11⟩
    clear bx9 dk9 tt9 pE9 s09 H9
    rintro σ H10 ⟨x2, x7, x8, kk, rfl, bx10, dk10, hkk, tt10, pE10⟩
    have e0 : (!inV .non [lo, hi]) = decide (lo ≠ .non ∧ hi ≠ .non) := by
      rcases m1 with rfl | ⟨i, rfl, _⟩ <;> rcases m2 with rfl | ⟨j, rfl, _⟩ <;> simp [inV, eqV]
    have fl : [lo, hi].all flatV = true := by
      rcases m1 with rfl | ⟨i, rfl, _⟩ <;> rcases m2 with rfl | ⟨j, rfl, _⟩ <;> rfl
    refine ⟨_, rfl, p, [lo, hi], rfl, .inr (SqT.of pE10), rfl, fl, _, rfl, ?_⟩
    show (if (!inV .non [lo, hi]) = true then _ else _)
    rw [e0]
    refine iteD (fun hb => ?_) (fun hb => ?_)
    · refine ⟨(by show 1 ≤ sizeLine; decide), fun S hS => ?_⟩
      have s11 := same_new (o := .lst [.str "between"]) hS
      have SE : upd H10 S (.lst [.str "between"]) S = some (.lst [.str "between"]) := upd_same
      generalize upd H10 S (.lst [.str "between"]) = H11 at s11 SE
      refine ⟨_, rfl, (by show 1 ≤ sizeLine; decide), fun r1 hr1 => ?_⟩
      have s12 := same_new (o := .lst [.str "rises"]) hr1
      have r1E : upd H11 r1 (.lst [.str "rises"]) r1 = some (.lst [.str "rises"]) := upd_same
      have SE2 := s12 _ _ SE
      have s1012 := s11.trans s12
      generalize upd H11 r1 (.lst [.str "rises"]) = H12 at s12 r1E SE2 s1012
      refine ⟨_, rfl, _, _, _, _, rfl, rfl, SqT.of (s1012 _ _ pE10), rfl, rfl, .inr ⟨_, rfl, ?_⟩⟩
      refine ⟨r1, _, _, rfl, rfl, r1E, by split <;> decide, by split <;> decide, by split <;> decide, fun r2 hr2 => ?_⟩
      have s13 := same_new (o := .lst (List.replicate (if decide (hi = .non) = true then (1 : Int) else 0).toNat [V.str "rises"]).flatten) hr2
      have r2E : upd H12 r2 (.lst (List.replicate (if decide (hi = .non) = true then (1 : Int) else 0).toNat [V.str "rises"]).flatten) r2 = some (.lst (List.replicate (if decide (hi = .non) = true then (1 : Int) else 0).toNat [V.str "rises"]).flatten) := upd_same
      have SE3 := s13 _ _ SE2
      have s1013 := s1012.trans s13
      generalize upd H12 r2 (.lst (List.replicate (if decide (hi = .non) = true then (1 : Int) else 0).toNat [V.str "rises"]).flatten) = H13 at s13 r2E SE3 s1013
      generalize hL1 : (List.replicate (if decide (hi = .non) = true then (1 : Int) else 0).toNat [V.str "rises"]).flatten = L1 at r2E
      have l1 : L1.length ≤ 1 := by rw [← hL1]; exact repl_len _ _
      refine ⟨S, r2, [.str "between"], L1, rfl, rfl, SE3, r2E, Nat.le_trans (Nat.add_le_add_left l1 _) (by show 1 + 1 ≤ sizeLine; decide), fun r3 hr3 => ?_⟩
      have s14 := s1013.trans (same_new (o := .lst ([.str "between"] ++ L1)) hr3)
      have r3E : upd H13 r3 (.lst ([.str "between"] ++ L1)) r3 = some (.lst ([.str "between"] ++ L1)) := upd_same
      generalize upd H13 r3 (.lst ([.str "between"] ++ L1)) = H14 at s14 r3E
      refine ⟨(by show 1 ≤ sizeLine; decide), fun r4 hr4 => ?_⟩
      have s15 := s14.trans (same_new (o := .lst [.str "falls"]) hr4)
      have r4E : upd H14 r4 (.lst [.str "falls"]) r4 = some (.lst [.str "falls"]) := upd_same
      have r3E2 := same_new (o := .lst [.str "falls"]) hr4 _ _ r3E
      generalize upd H14 r4 (.lst [.str "falls"]) = H15 at s15 r4E r3E2
      refine ⟨_, rfl, _, _, _, _, rfl, rfl, SqT.of (s15 _ _ pE10), rfl, rfl, .inr ⟨_, rfl, ?_⟩⟩
      refine ⟨r4, _, _, rfl, rfl, r4E, by split <;> decide, by split <;> decide, by split <;> decide, fun r5 hr5 => ?_⟩
      have s16 := s15.trans (same_new (o := .lst (List.replicate (if decide (lo = .non) = true then (1 : Int) else 0).toNat [V.str "falls"]).flatten) hr5)
      have r5E : upd H15 r5 (.lst (List.replicate (if decide (lo = .non) = true then (1 : Int) else 0).toNat [V.str "falls"]).flatten) r5 = some (.lst (List.replicate (if decide (lo = .non) = true then (1 : Int) else 0).toNat [V.str "falls"]).flatten) := upd_same
      have r3E3 := same_new (o := .lst (List.replicate (if decide (lo = .non) = true then (1 : Int) else 0).toNat [V.str "falls"]).flatten) hr5 _ _ r3E2
      generalize upd H15 r5 (.lst (List.replicate (if decide (lo = .non) = true then (1 : Int) else 0).toNat [V.str "falls"]).flatten) = H16 at s16 r5E r3E3
      generalize hL2 : (List.replicate (if decide (lo = .non) = true then (1 : Int) else 0).toNat [V.str "falls"]).flatten = L2 at r5E
      have l2 : L2.length ≤ 1 := by rw [← hL2]; exact repl_len _ _
      refine ⟨r3, r5, [.str "between"] ++ L1, L2, rfl, rfl, r3E3, r5E, (by rw [List.length_append]; exact Nat.le_trans (Nat.add_le_add (Nat.add_le_add_left l1 _) l2) (by show 1 + 1 + 1 ≤ sizeLine; decide)), fun r6 hr6 => ?_⟩
      have eL : [.str "between"] ++ L1 ++ L2 = sortsOf lo hi := by
        have := sorts_eq (lo := lo) (hi := hi)
        rw [if_pos hb, hL1, hL2] at this
        exact this
      rw [eL]
      have s17 := s16.trans (same_new (o := .lst (sortsOf lo hi)) hr6)
      have r6E : upd H16 r6 (.lst (sortsOf lo hi)) r6 = some (.lst (sortsOf lo hi)) := upd_same
      generalize upd H16 r6 (.lst (sortsOf lo hi)) = H17 at s17 r6E
      clear eL l1 l2 hL1 hL2 r5E r3E3 s16 r4E r3E2 s15 s14 r3E SE3 s1013 s13 r2E SE2 r1E s1012 s12 s11 SE hr6 hr5 hr4 hr3 hr2 hr1 hS
      clear H11 H12 H13 H14 H15 H16
      have bx17 := bx10.trans (Bx.same (wa := d) (ra := c') s17)
      have dk17 := dk10.same s17
      have tt17 := tt10.same s17
      have ht17 := ht H17 bx17
      refine ⟨_, rfl, ?_⟩
      show sp_pace K [V.ref t] H17 _ _
      refine pace_due tt17 usf due1 due2 fun H18 a1 z1 zs1 s18 pa1 sq1 hz1 => ?_
      refine ⟨_, rfl, ?_⟩
      show sp_pace K [V.ref t] H18 _ _
      refine pace_due (tt17.same s18) usf due1 due2 fun H19 a2 z2 zs2 s19 pa2 sq2 hz2 => ?_
      refine ⟨(by show 2 ≤ sizeLine; decide), fun T hT => ?_⟩
      have s20 := same_new (o := .tup [.ref a1, .ref a2]) hT
      have TE : upd H19 T (.tup [.ref a1, .ref a2]) T = some (.tup [.ref a1, .ref a2]) := upd_same
      generalize upd H19 T (.tup [.ref a1, .ref a2]) = H20 at s20 TE
      have s1720 := (s18.trans s19).trans s20
      have pap : ∀ (i : Nat) (x : V), [V.ref a1, V.ref a2][i]? = some x → ∃ a z zs, x = .ref a ∧ PapAt K H20 a ⟨n, bs, ms, es, us⟩ ∧ SqT K H20 a (.str z :: zs) ∧ HeadOf lo hi z := fun i x hx => by
        match i, hx with
        | 0, hx => exact ⟨a1, z1, zs1, (Option.some.inj hx).symm, pa1.same (s19.trans s20), sqT_same sq1 (s19.trans s20), hz1⟩
        | 1, hx => exact ⟨a2, z2, zs2, (Option.some.inj hx).symm, pa2.same s20, sqT_same sq2 s20, hz2⟩
      have tt20 := tt17.same s1720
      have ht20 := ht17.same s1720
      have dk20 := dk17.same s1720
      have bx20 := bx17.trans (Bx.same (wa := d) (ra := c') s1720)
      have r6E20 := s1720 _ _ r6E
      clear tt17 ht17 dk17 bx17 r6E pa1 pa2 sq1 sq2 hz1 hz2 s18 s19 s20 s1720 hT s17
      refine ⟨T, rfl, ⟨_, SqT.of TE⟩, for_tup (K := K) (a := T) (xs := [.ref a1, .ref a2]) (fun i σ H' => ∃ x2 x4 x7 x8, σ = [some (.ref d), some (.ref wa), x2, some (.ref r6), x4, some (.ref t), some (.ref p), x7, x8] ∧ Same H20 H')
        ⟨_, _, _, _, rfl, Same.refl _⟩ (fun i σ H' _ h => by obtain ⟨_, _, _, _, _, s⟩ := h; exact sqT_same (SqT.of TE) s) ?_ ?_⟩
      · rintro i x σ H21 hx ⟨x2, x4, x7, x8, rfl, s21⟩
        obtain ⟨a, z, zs, rfl, pa, sq, hz⟩ := pap i x hx
        refine ⟨_, rfl, _, rfl, wa, a, ⟨n, bs, ms, es, us⟩, rfl, ht20.same s21, tok, le9, usf, fun H22 s22 => ?_, pa.same s21⟩
        have s2122 := s21.trans s22
        refine ⟨_, rfl, ?_⟩
        refine ⟨_, rfl, _, _, _, _, rfl, rfl, sqT_same sq s2122, atI_int (Int.le_refl 0) rfl, _, rfl, r6, _, rfl, .inl (SqL.of (s2122 _ _ r6E20)), rfl, sorts_flat, false, (by rw [head_in hz]; rfl), ?_⟩
        refine ⟨_, rfl, _, rfl, t, a, ⟨n, bs, ms, es, us⟩, rfl, tt20.same s2122, fun H23 s23 => ?_, pa.same s2122⟩
        refine ⟨true, true, rfl, rfl, _, rfl, ?_⟩
        refine iteF ?_
        exact ⟨_, _, _, _, rfl, s2122.trans s23⟩
      rintro σ H21 ⟨x2, x4, x7, x8, rfl, s21⟩
      have ht21 := ht20.same s21
      refine ⟨_, rfl, _, rfl, wa, n, bs, ms, es, rfl, ht21, ok, fun H22 t2 us2 s22 tt2 usf2 => ?_⟩
      have eus := usf_unique usf usf2
      subst eus
      have s2022 := s21.trans s22
      have tt22 := tt20.same s2022
      have x1 := tt22.ex
      have x2' := tt2.ex
      obtain ⟨dx1, b1, m1', e1', u1, L1', bv1, mv1, ev1, hh1, _⟩ := x1
      obtain ⟨dx2, b2, m2', e2', u2, L2', bv2, mv2, ev2, hh2, _⟩ := x2'
      exact ⟨⟨t, t2, dx1, dx2, _, _, rfl, rfl, hh1, hh2, ⟨n, bs, ms, es, us⟩, tt22, tt2, ok.b, ok.m, ok.e⟩, fun H' ext => q H' _ (bx20.trans (Bx.same (s2022.trans ext))) (dk20.same (s2022.trans ext)) (by omega)⟩
    · refine ⟨Nat.zero_le _, fun S hS => ?_⟩
      have s11 := same_new (o := .lst []) hS
      have SE : upd H10 S (.lst []) S = some (.lst []) := upd_same
      generalize upd H10 S (.lst []) = H11 at s11 SE
      refine ⟨_, rfl, (by show 1 ≤ sizeLine; decide), fun r1 hr1 => ?_⟩
      have s12 := same_new (o := .lst [.str "rises"]) hr1
      have r1E : upd H11 r1 (.lst [.str "rises"]) r1 = some (.lst [.str "rises"]) := upd_same
      have SE2 := s12 _ _ SE
      have s1012 := s11.trans s12
      generalize upd H11 r1 (.lst [.str "rises"]) = H12 at s12 r1E SE2 s1012
      refine ⟨_, rfl, _, _, _, _, rfl, rfl, SqT.of (s1012 _ _ pE10), rfl, rfl, .inr ⟨_, rfl, ?_⟩⟩
      refine ⟨r1, _, _, rfl, rfl, r1E, by split <;> decide, by split <;> decide, by split <;> decide, fun r2 hr2 => ?_⟩
      have s13 := same_new (o := .lst (List.replicate (if decide (hi = .non) = true then (1 : Int) else 0).toNat [V.str "rises"]).flatten) hr2
      have r2E : upd H12 r2 (.lst (List.replicate (if decide (hi = .non) = true then (1 : Int) else 0).toNat [V.str "rises"]).flatten) r2 = some (.lst (List.replicate (if decide (hi = .non) = true then (1 : Int) else 0).toNat [V.str "rises"]).flatten) := upd_same
      have SE3 := s13 _ _ SE2
      have s1013 := s1012.trans s13
      generalize upd H12 r2 (.lst (List.replicate (if decide (hi = .non) = true then (1 : Int) else 0).toNat [V.str "rises"]).flatten) = H13 at s13 r2E SE3 s1013
      generalize hL1 : (List.replicate (if decide (hi = .non) = true then (1 : Int) else 0).toNat [V.str "rises"]).flatten = L1 at r2E
      have l1 : L1.length ≤ 1 := by rw [← hL1]; exact repl_len _ _
      refine ⟨S, r2, [], L1, rfl, rfl, SE3, r2E, Nat.le_trans (Nat.add_le_add_left l1 _) (by show 0 + 1 ≤ sizeLine; decide), fun r3 hr3 => ?_⟩
      have s14 := s1013.trans (same_new (o := .lst ([] ++ L1)) hr3)
      have r3E : upd H13 r3 (.lst ([] ++ L1)) r3 = some (.lst ([] ++ L1)) := upd_same
      generalize upd H13 r3 (.lst ([] ++ L1)) = H14 at s14 r3E
      refine ⟨(by show 1 ≤ sizeLine; decide), fun r4 hr4 => ?_⟩
      have s15 := s14.trans (same_new (o := .lst [.str "falls"]) hr4)
      have r4E : upd H14 r4 (.lst [.str "falls"]) r4 = some (.lst [.str "falls"]) := upd_same
      have r3E2 := same_new (o := .lst [.str "falls"]) hr4 _ _ r3E
      generalize upd H14 r4 (.lst [.str "falls"]) = H15 at s15 r4E r3E2
      refine ⟨_, rfl, _, _, _, _, rfl, rfl, SqT.of (s15 _ _ pE10), rfl, rfl, .inr ⟨_, rfl, ?_⟩⟩
      refine ⟨r4, _, _, rfl, rfl, r4E, by split <;> decide, by split <;> decide, by split <;> decide, fun r5 hr5 => ?_⟩
      have s16 := s15.trans (same_new (o := .lst (List.replicate (if decide (lo = .non) = true then (1 : Int) else 0).toNat [V.str "falls"]).flatten) hr5)
      have r5E : upd H15 r5 (.lst (List.replicate (if decide (lo = .non) = true then (1 : Int) else 0).toNat [V.str "falls"]).flatten) r5 = some (.lst (List.replicate (if decide (lo = .non) = true then (1 : Int) else 0).toNat [V.str "falls"]).flatten) := upd_same
      have r3E3 := same_new (o := .lst (List.replicate (if decide (lo = .non) = true then (1 : Int) else 0).toNat [V.str "falls"]).flatten) hr5 _ _ r3E2
      generalize upd H15 r5 (.lst (List.replicate (if decide (lo = .non) = true then (1 : Int) else 0).toNat [V.str "falls"]).flatten) = H16 at s16 r5E r3E3
      generalize hL2 : (List.replicate (if decide (lo = .non) = true then (1 : Int) else 0).toNat [V.str "falls"]).flatten = L2 at r5E
      have l2 : L2.length ≤ 1 := by rw [← hL2]; exact repl_len _ _
      refine ⟨r3, r5, [] ++ L1, L2, rfl, rfl, r3E3, r5E, (by rw [List.length_append]; exact Nat.le_trans (Nat.add_le_add (Nat.add_le_add_left l1 _) l2) (by show 0 + 1 + 1 ≤ sizeLine; decide)), fun r6 hr6 => ?_⟩
      have eL : [] ++ L1 ++ L2 = sortsOf lo hi := by
        have := sorts_eq (lo := lo) (hi := hi)
        rw [if_neg hb, hL1, hL2] at this
        exact this
      rw [eL]
      have s17 := s16.trans (same_new (o := .lst (sortsOf lo hi)) hr6)
      have r6E : upd H16 r6 (.lst (sortsOf lo hi)) r6 = some (.lst (sortsOf lo hi)) := upd_same
      generalize upd H16 r6 (.lst (sortsOf lo hi)) = H17 at s17 r6E
      clear eL l1 l2 hL1 hL2 r5E r3E3 s16 r4E r3E2 s15 s14 r3E SE3 s1013 s13 r2E SE2 r1E s1012 s12 s11 SE hr6 hr5 hr4 hr3 hr2 hr1 hS
      clear H11 H12 H13 H14 H15 H16
      have bx17 := bx10.trans (Bx.same (wa := d) (ra := c') s17)
      have dk17 := dk10.same s17
      have tt17 := tt10.same s17
      have ht17 := ht H17 bx17
      refine ⟨_, rfl, ?_⟩
      show sp_pace K [V.ref t] H17 _ _
      refine pace_due tt17 usf due1 due2 fun H18 a1 z1 zs1 s18 pa1 sq1 hz1 => ?_
      refine ⟨_, rfl, ?_⟩
      show sp_pace K [V.ref t] H18 _ _
      refine pace_due (tt17.same s18) usf due1 due2 fun H19 a2 z2 zs2 s19 pa2 sq2 hz2 => ?_
      refine ⟨(by show 2 ≤ sizeLine; decide), fun T hT => ?_⟩
      have s20 := same_new (o := .tup [.ref a1, .ref a2]) hT
      have TE : upd H19 T (.tup [.ref a1, .ref a2]) T = some (.tup [.ref a1, .ref a2]) := upd_same
      generalize upd H19 T (.tup [.ref a1, .ref a2]) = H20 at s20 TE
      have s1720 := (s18.trans s19).trans s20
      have pap : ∀ (i : Nat) (x : V), [V.ref a1, V.ref a2][i]? = some x → ∃ a z zs, x = .ref a ∧ PapAt K H20 a ⟨n, bs, ms, es, us⟩ ∧ SqT K H20 a (.str z :: zs) ∧ HeadOf lo hi z := fun i x hx => by
        match i, hx with
        | 0, hx => exact ⟨a1, z1, zs1, (Option.some.inj hx).symm, pa1.same (s19.trans s20), sqT_same sq1 (s19.trans s20), hz1⟩
        | 1, hx => exact ⟨a2, z2, zs2, (Option.some.inj hx).symm, pa2.same s20, sqT_same sq2 s20, hz2⟩
      have tt20 := tt17.same s1720
      have ht20 := ht17.same s1720
      have dk20 := dk17.same s1720
      have bx20 := bx17.trans (Bx.same (wa := d) (ra := c') s1720)
      have r6E20 := s1720 _ _ r6E
      clear tt17 ht17 dk17 bx17 r6E pa1 pa2 sq1 sq2 hz1 hz2 s18 s19 s20 s1720 hT s17
      refine ⟨T, rfl, ⟨_, SqT.of TE⟩, for_tup (K := K) (a := T) (xs := [.ref a1, .ref a2]) (fun i σ H' => ∃ x2 x4 x7 x8, σ = [some (.ref d), some (.ref wa), x2, some (.ref r6), x4, some (.ref t), some (.ref p), x7, x8] ∧ Same H20 H')
        ⟨_, _, _, _, rfl, Same.refl _⟩ (fun i σ H' _ h => by obtain ⟨_, _, _, _, _, s⟩ := h; exact sqT_same (SqT.of TE) s) ?_ ?_⟩
      · rintro i x σ H21 hx ⟨x2, x4, x7, x8, rfl, s21⟩
        obtain ⟨a, z, zs, rfl, pa, sq, hz⟩ := pap i x hx
        refine ⟨_, rfl, _, rfl, wa, a, ⟨n, bs, ms, es, us⟩, rfl, ht20.same s21, tok, le9, usf, fun H22 s22 => ?_, pa.same s21⟩
        have s2122 := s21.trans s22
        refine ⟨_, rfl, ?_⟩
        refine ⟨_, rfl, _, _, _, _, rfl, rfl, sqT_same sq s2122, atI_int (Int.le_refl 0) rfl, _, rfl, r6, _, rfl, .inl (SqL.of (s2122 _ _ r6E20)), rfl, sorts_flat, false, (by rw [head_in hz]; rfl), ?_⟩
        refine ⟨_, rfl, _, rfl, t, a, ⟨n, bs, ms, es, us⟩, rfl, tt20.same s2122, fun H23 s23 => ?_, pa.same s2122⟩
        refine ⟨true, true, rfl, rfl, _, rfl, ?_⟩
        refine iteF ?_
        exact ⟨_, _, _, _, rfl, s2122.trans s23⟩
      rintro σ H21 ⟨x2, x4, x7, x8, rfl, s21⟩
      have ht21 := ht20.same s21
      refine ⟨_, rfl, _, rfl, wa, n, bs, ms, es, rfl, ht21, ok, fun H22 t2 us2 s22 tt2 usf2 => ?_⟩
      have eus := usf_unique usf usf2
      subst eus
      have s2022 := s21.trans s22
      have tt22 := tt20.same s2022
      have x1 := tt22.ex
      have x2' := tt2.ex
      obtain ⟨dx1, b1, m1', e1', u1, L1', bv1, mv1, ev1, hh1, _⟩ := x1
      obtain ⟨dx2, b2, m2', e2', u2, L2', bv2, mv2, ev2, hh2, _⟩ := x2'
      exact ⟨⟨t, t2, dx1, dx2, _, _, rfl, rfl, hh1, hh2, ⟨n, bs, ms, es, us⟩, tt22, tt2, ok.b, ok.m, ok.e⟩, fun H' ext => q H' _ (bx20.trans (Bx.same (s2022.trans ext))) (dk20.same (s2022.trans ext)) (by omega)⟩
end
end K86
end
section
set_option maxHeartbeats 4000000
namespace K86
open PySem PySem.Spec PyProof.Rows L2
/-! ### the three machines that the law writes by hand -/
theorem reach_in {ps : List (Int × Int)} {ss L : List Int} {x : Int} (h : Reach ps ss x) (h1 : ∀ x ∈ ss, x ∈ L) (h2 : ∀ p ∈ ps, p.1 ∈ L → p.2 ∈ L) : x ∈ L := by
  induction h with
  | base h => exact h1 _ h
  | step _ h ih => exact h2 _ h ih
theorem usf_con {bs : List Bg} {ms : List Mv} {es : List Bg} {us : List Int} (L1 L2 : List Int) (asc : Asc us) (c1 : ∀ x ∈ st bs, x ∈ L1) (c2 : ∀ p ∈ fw ms, p.1 ∈ L1 → p.2 ∈ L1) (c3 : ∀ x ∈ st es, x ∈ L2) (c4 : ∀ p ∈ bw ms, p.1 ∈ L2 → p.2 ∈ L2) (h : ∀ x ∈ L1, x ∈ L2 → x ∈ us)
    (r : ∀ x ∈ us, Reach (fw ms) (st bs) x ∧ Reach (bw ms) (st es) x) : Usf bs ms es us :=
  ⟨asc, fun i => ⟨fun hi => r i hi, fun ⟨a, b⟩ => h i (reach_in a c1 c2) (reach_in b c3 c4)⟩⟩
def tT : Tr := ⟨2, [⟨0, "x"⟩], [⟨0, "a", "xx", 1⟩, ⟨1, "b", "", 0⟩], [⟨0, ""⟩], [0, 1]⟩
def tB : Tr := ⟨1, [⟨0, ""⟩], [⟨0, "a", "xx", 0⟩, ⟨0, "b", "", 0⟩], [⟨0, ""⟩], [0]⟩
def tN : Tr := ⟨2, [⟨0, "xx"⟩], [⟨0, "a", "xx", 0⟩], [⟨1, ""⟩], []⟩
theorem usf_T : Usf tT.bs tT.ms tT.es tT.us := by
  refine usf_con [0, 1] [0, 1] (by unfold Asc tT; decide) (by decide) (by decide) (by decide) (by decide) (by decide) fun x hx => ?_
  have e : x = 0 ∨ x = 1 := by
    have : x ∈ [(0 : Int), 1] := hx
    simpa using this
  have b1 : Reach (fw tT.ms) (st tT.bs) 0 := .base (by decide)
  have b2 : Reach (bw tT.ms) (st tT.es) 0 := .base (by decide)
  rcases e with rfl | rfl
  · exact ⟨b1, b2⟩
  · exact ⟨.step b1 (by decide), .step b2 (by decide)⟩
theorem usf_B : Usf tB.bs tB.ms tB.es tB.us := by
  refine usf_con [0] [0] (by unfold Asc tB; decide) (by decide) (by decide) (by decide) (by decide) (by decide) fun x hx => ?_
  have e : x = 0 := by
    have : x ∈ [(0 : Int)] := hx
    simpa using this
  subst e
  exact ⟨.base (by decide), .base (by decide)⟩
theorem usf_N : Usf tN.bs tN.ms tN.es tN.us := by
  refine usf_con [0] [1] (by unfold Asc tN; decide) (by decide) (by decide) (by decide) (by decide) (by decide) fun x hx => ?_
  exact (nomatch (show x ∈ ([] : List Int) from hx))
theorem len_x : ("x" : Str).length = 1 := by decide +kernel
theorem len_xx : ("xx" : Str).length = 2 := by decide +kernel
theorem len_e : ("" : Str).length = 0 := by decide +kernel
def fT (sg : Int) : Int → Option Int := fun s => if s = 0 then some (sg * 1) else if s = 1 then some (sg * 2) else none
theorem far_T {sg : Int} : FarD tT sg (fT sg) := by
  refine ⟨fun g hg _ => ?_, fun m hm _ _ v hv => ?_, fun s v h => ?_⟩
  · have e : g = ⟨0, "x"⟩ := by simpa [tT] using hg
    subst e
    exact ⟨sg * 1, rfl, by show sg * (("x" : Str).length : Int) ≤ _; rw [len_x]; exact Int.le_refl _⟩
  · have e : m = ⟨0, "a", "xx", 1⟩ ∨ m = ⟨1, "b", "", 0⟩ := by simpa [tT] using hm
    rcases e with rfl | rfl
    · have ev : v = sg * 1 := by have h : some (sg * 1) = some v := hv; exact (Option.some.inj h).symm
      refine ⟨sg * 2, rfl, ?_⟩
      show v + sg * ((("xx" : Str).length : Int) - 1) ≤ _
      rw [len_xx, ev]
      omega
    · have ev : v = sg * 2 := by have h : some (sg * 2) = some v := hv; exact (Option.some.inj h).symm
      refine ⟨sg * 1, rfl, ?_⟩
      show v + sg * ((("" : Str).length : Int) - 1) ≤ _
      rw [len_e, ev]
      omega
  · unfold fT at h
    by_cases h0 : s = 0
    · rw [if_pos h0] at h
      subst h0
      refine ⟨⟨0, "x"⟩, [], ⟨by simp [tT], rfl, fun x hx => ?_⟩, ?_⟩
      · have : x = 0 := by simpa [trail] using hx
        subst this
        simp [tT]
      · have e : worth tT sg ⟨0, "x"⟩ [] = sg * ((("x" : Str).length : Int) + 0) := rfl
        rw [e, len_x, ← Option.some.inj h]
        rfl
    · rw [if_neg h0] at h
      by_cases h1 : s = 1
      · rw [if_pos h1] at h
        subst h1
        refine ⟨⟨0, "x"⟩, [0], ⟨by simp [tT], rfl, fun x hx => ?_⟩, ?_⟩
        · have : x = 0 ∨ x = 1 := by simpa [trail, tgt, tT] using hx
          rcases this with rfl | rfl <;> simp [tT]
        · have e : worth tT sg ⟨0, "x"⟩ [0] = sg * ((("x" : Str).length : Int) + (((("xx" : Str).length : Int) - 1) + 0)) := rfl
          rw [e, len_x, len_xx, ← Option.some.inj h]
          rfl
      · rw [if_neg h1] at h
        cases h
theorem due_T1 : DueIs tT 1 (.int 2) := by
  refine .inr ⟨fT 1, far_T, .inr ⟨2, rfl, ⟨1, rfl⟩, fun s x h => ?_⟩⟩
  unfold fT at h
  split at h
  · cases h; decide
  · split at h
    · cases h; decide
    · cases h
theorem due_T2 : DueIs tT (-1) (.int 1) := by
  refine .inr ⟨fT (-1), far_T, .inr ⟨-1, rfl, ⟨0, rfl⟩, fun s x h => ?_⟩⟩
  unfold fT at h
  split at h
  · cases h; decide
  · split at h
    · cases h; decide
    · cases h
theorem due_B {sg : Int} (hs : sg = 1 ∨ sg = -1) : DueIs tB sg .non := by
  refine .inl ⟨rfl, fun wf F => ?_⟩
  have tr0 : ∀ i : Int, (i = 0 ∨ i = 1) → ∀ x ∈ trail tB.ms 0 ([] ++ [i]), x ∈ tB.us := fun i hi x hx => by
    rcases hi with rfl | rfl
    · have : x = 0 := by simpa [trail, tgt, tB] using hx
      subst this; simp [tB]
    · have : x = 0 := by simpa [trail, tgt, tB] using hx
      subst this; simp [tB]
  rcases hs with rfl | rfl
  · have e : pathLead tB [0] = (((("xx" : Str).length : Int) - 1) + 0) := rfl
    exact F.d.rise (b := 0) (pre := []) (lp := [0]) (g := ⟨0, ""⟩) (u := 0) ⟨by decide, rfl, rfl, by simp, rfl, by rw [e, len_xx]; decide, tr0 0 (.inl rfl), ⟨by simp, by simp⟩⟩
  · have e : pathLead tB [1] = (((("" : Str).length : Int) - 1) + 0) := rfl
    exact F.d.rise (b := 0) (pre := []) (lp := [1]) (g := ⟨0, ""⟩) (u := 0) ⟨by decide, rfl, rfl, by simp, rfl, by rw [e, len_e]; decide, tr0 1 (.inr rfl), ⟨by simp, by simp⟩⟩
theorem due_N {sg : Int} : DueIs tN sg (.int 0) := .inr ⟨fun _ => none, (FarS.zero rfl).d, .inl ⟨fun _ => rfl, rfl⟩⟩
end K86
end
section
set_option maxHeartbeats 4000000
namespace K86
open PySem PySem.Spec PyProof.Rows L2
open C8 (Cal Met Mak pe_c pe_mk pe_mt pe_mt0)
section
variable {P : Program} {w : World} {K : PySem.W.Frag} {mg : Str → Option Value} {base : Heap}
theorem ris1 (x : List Key) : Ris [x] := fun i a b h1 h2 => by
  have := (List.getElem?_eq_some_iff.mp h2).1
  simp at this
theorem ris2 {x y : List Key} (h : PySem.W.alike (SetX.tD x) (SetX.tD y) = true ∧ PySem.W.dataLt (SetX.tD x) (SetX.tD y) = true) : Ris [x, y] := fun i a b h1 h2 => by
  cases i with
  | zero => cases h1; cases h2; exact h
  | succ i =>
    have := (List.getElem?_eq_some_iff.mp h2).1
    simp at this
    omega
theorem mv2 {n : Int} {x y : Mv} (h : MvOk n x) (h' : MvOk n y) : ∀ g ∈ [x, y], MvOk n g := fun g hg => by
  rcases List.mem_cons.mp hg with e | e
  · rw [e]; exact h
  · rw [List.mem_singleton.mp e]; exact h'
theorem mv1 {n : Int} {x : Mv} (h : MvOk n x) : ∀ g ∈ [x], MvOk n g := fun g hg => by
  rw [List.mem_singleton.mp hg]
  exact h
theorem rw1 {α : Type} {f : α → List V} {H : Hp} {a : Addr} {x : α} (h : SqT K H a (f x)) : Rw f K H [.ref a] [x] := Rw.snoc (vs := []) (xs := []) Rw.nil h
theorem rw2 {α : Type} {f : α → List V} {H : Hp} {a b : Addr} {x y : α} (h : SqT K H a (f x)) (h' : SqT K H b (f y)) : Rw f K H [.ref a, .ref b] [x, y] := Rw.snoc (vs := [.ref a]) (xs := [x]) (rw1 h) h'
theorem bg1 {n s : Int} {z : Str} (h : 0 ≤ s ∧ s < n) (hz : WordOk z) : ∀ g ∈ [Bg.mk s z], BgOk n g := fun g hg => by
  rw [List.mem_singleton.mp hg]
  exact ⟨h.1, h.2, hz⟩
structure WOk3 (tr : Tr) : Prop where
  b : ∀ g ∈ tr.bs, BgOk tr.n g
  m : ∀ g ∈ tr.ms, MvOk tr.n g
  e : ∀ g ∈ tr.es, BgOk tr.n g
  rb : Ris (tr.bs.map kB)
  rm : Ris (tr.ms.map kM)
  re : Ris (tr.es.map kB)
theorem wok_T : WOk3 tT := ⟨bg1 (by decide) wx1, mv2 ⟨by decide, by decide, by decide, by decide, wx3, .inl rfl⟩ ⟨by decide, by decide, by decide, by decide, wx0, .inr rfl⟩, bg1 (by decide) wx0, ris1 _, ris2 (by decide +kernel), ris1 _⟩
theorem wok_B : WOk3 tB := ⟨bg1 (by decide) wx0, mv2 ⟨by decide, by decide, by decide, by decide, wx3, .inl rfl⟩ ⟨by decide, by decide, by decide, by decide, wx0, .inr rfl⟩, bg1 (by decide) wx0, ris1 _, ris2 (by decide +kernel), ris1 _⟩
theorem wok_N : WOk3 tN := ⟨bg1 (by decide) wx3, mv1 ⟨by decide, by decide, by decide, by decide, wx3, .inl rfl⟩, bg1 (by decide) wx0, ris1 _, ris1 _, ris1 _⟩
def N_law : List Str := ["_law_script", "_law_deck_here", "_law_go", "_law_turn_now", "_law_both", "_law_bare"]
theorem sc_law : FnScope N_law ["_law_script"] (defScope s_law) := ⟨rfl, rfl, rfl, by decide +kernel, rfl, by decide +kernel, by decide +kernel⟩
def sp_law (K : PySem.W.Frag) : Sp := fun vs H Q _ => ∃ (a : Addr) (ns : List Int), vs = [.ref a] ∧ SqL K H a (nums ns) ∧ ns.length ≤ 63 ∧ ∀ H', Q (.bl true) H'
theorem FG_law (c : Cn K mg) : ∃ fd, FunD K "law" "law" (defArgs s_law) (defBody s_law) (defScope s_law) [] [] (He.ga K "law") fd ∧ ∀ base : Heap, FnG P w K mg base 10 (He.ga K "law") fd ["_law_script"] (sp_law K) := by
  obtain ⟨fd, F⟩ := F_law c
  refine ⟨fd, F, fun base => FunD.okG F sc_law (fun vs H Q E h => ?_) (fun cdv A outer s H vs Q E hgd hr h => ?_)⟩
  · obtain ⟨a, ns, rfl, _⟩ := h
    rfl
  · obtain ⟨a, ns, rfl, ha, hl, q⟩ := h
    have hu := hu_of hr
    obtain ⟨fdR, FR, GR⟩ := FG_law_right (P := P) (w := w) (base := base) c
    refine ⟨_, (pss_cons (ps_set (i := 1) sc_law.nd rfl (.inl rfl) (pe_c (C_law_deck c) hr (by decide) rfl (pa_cons (pv 0) pa_nil)))
      (pss_cons (ps_for PassesOwn.never rfl (pi_range1 (by rfl) (m_range c) (pa_cons pe_int pa_nil)) (pg_name (i := 2) sc_law.nd rfl (.inl rfl))
        (pss_one (ps_if (pt_not (pt_val (pe_cG GR hgd hr (by decide) rfl (g_law_right c) FR.kp (FR.bindsN (fun _ _ _ _ _ _ us hl => match us, hl with | [_, _], _ => rfl)) (pa_cons (pv 1) (pa_cons (pe_c (C_law_drawn c) hr (by decide) rfl (pa_cons (pv 1) pa_nil)) pa_nil)))))
          (pss_one (ps_ret pe_bl))
          pss_nil)))
      (pss_cons (ps_set (i := 3) sc_law.nd rfl (.inl rfl) (pe_mk (K_Translator c) hr (by decide) rfl (pa_cons pe_int (pa_cons (pe_tup (pa_cons (pe_tup (pa_cons pe_int (pa_cons pe_str pa_nil))) pa_nil)) (pa_cons (pe_tup (pa_cons (pe_tup (pa_cons pe_int (pa_cons pe_str (pa_cons pe_str (pa_cons pe_int pa_nil))))) (pa_cons (pe_tup (pa_cons pe_int (pa_cons pe_str (pa_cons pe_str (pa_cons pe_int pa_nil))))) pa_nil))) (pa_cons (pe_tup (pa_cons (pe_tup (pa_cons pe_int (pa_cons pe_str pa_nil))) pa_nil)) pa_nil))))))
      (pss_cons (ps_set (i := 4) sc_law.nd rfl (.inl rfl) (pe_mk (K_Translator c) hr (by decide) rfl (pa_cons pe_int (pa_cons (pe_tup (pa_cons (pe_tup (pa_cons pe_int (pa_cons pe_str pa_nil))) pa_nil)) (pa_cons (pe_tup (pa_cons (pe_tup (pa_cons pe_int (pa_cons pe_str (pa_cons pe_str (pa_cons pe_int pa_nil))))) (pa_cons (pe_tup (pa_cons pe_int (pa_cons pe_str (pa_cons pe_str (pa_cons pe_int pa_nil))))) pa_nil))) (pa_cons (pe_tup (pa_cons (pe_tup (pa_cons pe_int (pa_cons pe_str pa_nil))) pa_nil)) pa_nil))))))
      (pss_cons (ps_set (i := 5) sc_law.nd rfl (.inl rfl) (pe_mk (K_Translator c) hr (by decide) rfl (pa_cons pe_int (pa_cons (pe_tup (pa_cons (pe_tup (pa_cons pe_int (pa_cons pe_str pa_nil))) pa_nil)) (pa_cons (pe_tup (pa_cons (pe_tup (pa_cons pe_int (pa_cons pe_str (pa_cons pe_str (pa_cons pe_int pa_nil))))) pa_nil)) (pa_cons (pe_tup (pa_cons (pe_tup (pa_cons pe_int (pa_cons pe_str pa_nil))) pa_nil)) pa_nil))))))
      (pss_one (ps_ret (pe_cmpR (eqD K hr.units) (pe_lst (pa_cons (pe_c (C_leads c) hr (by decide) rfl (pa_cons (pv 3) pa_nil)) (pa_cons (pe_c (C_leads c) hr (by decide) rfl (pa_cons (pv 4) pa_nil)) (pa_cons (pe_c (C_leads c) hr (by decide) rfl (pa_cons (pv 5) pa_nil)) pa_nil)))) (pe_lst (pa_cons (pe_tup (pa_cons pe_int (pa_cons pe_int pa_nil))) (pa_cons (pe_tup (pa_cons pe_non (pa_cons pe_non pa_nil))) (pa_cons (pe_tup (pa_cons pe_int (pa_cons pe_int pa_nil))) pa_nil)))) (nomark _))))))))), ?_⟩
    refine ⟨_, rfl, a, ns, rfl, ha, hl, fun H1 d c' s1 d0 c0 dk => ?_⟩
    refine ⟨3, rfl, by decide, by decide, for_range (lo := 0) (n := 3) (fun i σ H' => ∃ x2 kk, σ = [some (.ref a), some (.ref d), x2, none, none, none] ∧ DeckAt H' d c' kk ∧ kk ≤ 1000 * (i : Nat))
      ⟨_, _, rfl, dk, by omega⟩ ?_ ?_⟩
    · rintro i σ H2 hi ⟨x2, kk, rfl, dk2, hkk⟩
      refine ⟨_, rfl, _, rfl, d, c', kk, rfl, dk2, by omega, fun H3 wa n bs ms es k3 bx nw dk3 hk3 hw ok => ?_⟩
      refine ⟨d, c', wa, k3, n, bs, ms, es, rfl, dk3, by omega, hw, ok, fun H4 k4 bx4 dk4 hk4 => ?_⟩
      refine ⟨_, rfl, ?_⟩
      refine iteF ?_
      exact ⟨_, _, rfl, dk4, by omega⟩
    rintro σ h0 ⟨x2, kk, rfl, _, _⟩
    clear s1 d0 c0 dk GR FR
    refine ⟨(by show 2 ≤ sizeLine; decide), fun p1 hp1 => ?_⟩
    have s1 := same_new (o := .tup [.int 0,.str "x"]) hp1
    have E1 : upd h0 p1 (.tup [.int 0,.str "x"]) p1 = some (.tup [.int 0,.str "x"]) := upd_same
    generalize upd h0 p1 (.tup [.int 0,.str "x"]) = h1 at s1 E1
    refine ⟨(by show 1 ≤ sizeLine; decide), fun b1 hb1 => ?_⟩
    have s2 := same_new (o := .tup [.ref p1]) hb1
    have E2 : upd h1 b1 (.tup [.ref p1]) b1 = some (.tup [.ref p1]) := upd_same
    generalize upd h1 b1 (.tup [.ref p1]) = h2 at s2 E2
    refine ⟨(by show 4 ≤ sizeLine; decide), fun m1 hm1 => ?_⟩
    have s3 := same_new (o := .tup [.int 0,.str "a",.str "xx",.int 1]) hm1
    have E3 : upd h2 m1 (.tup [.int 0,.str "a",.str "xx",.int 1]) m1 = some (.tup [.int 0,.str "a",.str "xx",.int 1]) := upd_same
    generalize upd h2 m1 (.tup [.int 0,.str "a",.str "xx",.int 1]) = h3 at s3 E3
    refine ⟨(by show 4 ≤ sizeLine; decide), fun m2 hm2 => ?_⟩
    have s4 := same_new (o := .tup [.int 1,.str "b",.str "",.int 0]) hm2
    have E4 : upd h3 m2 (.tup [.int 1,.str "b",.str "",.int 0]) m2 = some (.tup [.int 1,.str "b",.str "",.int 0]) := upd_same
    generalize upd h3 m2 (.tup [.int 1,.str "b",.str "",.int 0]) = h4 at s4 E4
    refine ⟨(by show 2 ≤ sizeLine; decide), fun mm hmm => ?_⟩
    have s5 := same_new (o := .tup [.ref m1,.ref m2]) hmm
    have E5 : upd h4 mm (.tup [.ref m1,.ref m2]) mm = some (.tup [.ref m1,.ref m2]) := upd_same
    generalize upd h4 mm (.tup [.ref m1,.ref m2]) = h5 at s5 E5
    refine ⟨(by show 2 ≤ sizeLine; decide), fun e1 he1 => ?_⟩
    have s6 := same_new (o := .tup [.int 0,.str ""]) he1
    have E6 : upd h5 e1 (.tup [.int 0,.str ""]) e1 = some (.tup [.int 0,.str ""]) := upd_same
    generalize upd h5 e1 (.tup [.int 0,.str ""]) = h6 at s6 E6
    refine ⟨(by show 1 ≤ sizeLine; decide), fun ee hee => ?_⟩
    have s7 := same_new (o := .tup [.ref e1]) hee
    have E7 : upd h6 ee (.tup [.ref e1]) ee = some (.tup [.ref e1]) := upd_same
    generalize upd h6 ee (.tup [.ref e1]) = h7 at s7 E7
    intro x1 dx1 nx1 ndx1 nex1
    have s8 : Same h7 (upd (upd h7 dx1 (.own x1)) x1 (.ins (aTr K) dx1 [])) := fun b o e => by
      rw [upd_ne (ne_of_none e nx1), upd_ne (ne_of_none e ndx1)]
      exact e
    refine ⟨x1, dx1, b1, mm, ee, tT.n, tT.bs, tT.ms, tT.es, [.ref p1], [.ref m1, .ref m2], [.ref e1], rfl, upd_same, SqT.of (s8 _ _ (s7 _ _ (s6 _ _ (s5 _ _ (s4 _ _ (s3 _ _ E2)))))), SqT.of (s8 _ _ (s7 _ _ (s6 _ _ E5))), SqT.of (s8 _ _ E7),
      rw1 (SqT.of (s8 _ _ (s7 _ _ (s6 _ _ (s5 _ _ (s4 _ _ (s3 _ _ (s2 _ _ E1)))))))), rw2 (SqT.of (s8 _ _ (s7 _ _ (s6 _ _ (s5 _ _ (s4 _ _ E3)))))) (SqT.of (s8 _ _ (s7 _ _ (s6 _ _ (s5 _ _ E4))))), rw1 (SqT.of (s8 _ _ (s7 _ _ E6))),
      wok_T.b, wok_T.m, wok_T.e, wok_T.rb, wok_T.rm, wok_T.re, by decide, by decide, by decide, by decide, by decide, fun g0 us fr tt1 us1 => ⟨rfl, ?_⟩⟩
    have eus := usf_unique us1 usf_T
    subst eus
    have s07 := ((((((s1.trans s2).trans s3).trans s4).trans s5).trans s6).trans s7)
    have w1 : Same h0 g0 := fun a o e => fr a o (s8 a o (s07 a o e)) (ne_of_none (s07 a o e) nx1)
    clear fr s8 s07 E1 E2 E3 E4 E5 E6 E7 s1 s2 s3 s4 s5 s6 s7 nx1 ndx1 nex1 hp1 hb1 hm1 hm2 hmm he1 hee us1
    clear h1 h2 h3 h4 h5 h6 h7
    refine ⟨(by show 2 ≤ sizeLine; decide), fun p1 hp1 => ?_⟩
    have s1 := same_new (o := .tup [.int 0,.str ""]) hp1
    have E1 : upd g0 p1 (.tup [.int 0,.str ""]) p1 = some (.tup [.int 0,.str ""]) := upd_same
    generalize upd g0 p1 (.tup [.int 0,.str ""]) = h1 at s1 E1
    refine ⟨(by show 1 ≤ sizeLine; decide), fun b1 hb1 => ?_⟩
    have s2 := same_new (o := .tup [.ref p1]) hb1
    have E2 : upd h1 b1 (.tup [.ref p1]) b1 = some (.tup [.ref p1]) := upd_same
    generalize upd h1 b1 (.tup [.ref p1]) = h2 at s2 E2
    refine ⟨(by show 4 ≤ sizeLine; decide), fun m1 hm1 => ?_⟩
    have s3 := same_new (o := .tup [.int 0,.str "a",.str "xx",.int 0]) hm1
    have E3 : upd h2 m1 (.tup [.int 0,.str "a",.str "xx",.int 0]) m1 = some (.tup [.int 0,.str "a",.str "xx",.int 0]) := upd_same
    generalize upd h2 m1 (.tup [.int 0,.str "a",.str "xx",.int 0]) = h3 at s3 E3
    refine ⟨(by show 4 ≤ sizeLine; decide), fun m2 hm2 => ?_⟩
    have s4 := same_new (o := .tup [.int 0,.str "b",.str "",.int 0]) hm2
    have E4 : upd h3 m2 (.tup [.int 0,.str "b",.str "",.int 0]) m2 = some (.tup [.int 0,.str "b",.str "",.int 0]) := upd_same
    generalize upd h3 m2 (.tup [.int 0,.str "b",.str "",.int 0]) = h4 at s4 E4
    refine ⟨(by show 2 ≤ sizeLine; decide), fun mm hmm => ?_⟩
    have s5 := same_new (o := .tup [.ref m1,.ref m2]) hmm
    have E5 : upd h4 mm (.tup [.ref m1,.ref m2]) mm = some (.tup [.ref m1,.ref m2]) := upd_same
    generalize upd h4 mm (.tup [.ref m1,.ref m2]) = h5 at s5 E5
    refine ⟨(by show 2 ≤ sizeLine; decide), fun e1 he1 => ?_⟩
    have s6 := same_new (o := .tup [.int 0,.str ""]) he1
    have E6 : upd h5 e1 (.tup [.int 0,.str ""]) e1 = some (.tup [.int 0,.str ""]) := upd_same
    generalize upd h5 e1 (.tup [.int 0,.str ""]) = h6 at s6 E6
    refine ⟨(by show 1 ≤ sizeLine; decide), fun ee hee => ?_⟩
    have s7 := same_new (o := .tup [.ref e1]) hee
    have E7 : upd h6 ee (.tup [.ref e1]) ee = some (.tup [.ref e1]) := upd_same
    generalize upd h6 ee (.tup [.ref e1]) = h7 at s7 E7
    intro x2 dx1 nx1 ndx1 nex1
    have s8 : Same h7 (upd (upd h7 dx1 (.own x2)) x2 (.ins (aTr K) dx1 [])) := fun b o e => by
      rw [upd_ne (ne_of_none e nx1), upd_ne (ne_of_none e ndx1)]
      exact e
    refine ⟨x2, dx1, b1, mm, ee, tB.n, tB.bs, tB.ms, tB.es, [.ref p1], [.ref m1, .ref m2], [.ref e1], rfl, upd_same, SqT.of (s8 _ _ (s7 _ _ (s6 _ _ (s5 _ _ (s4 _ _ (s3 _ _ E2)))))), SqT.of (s8 _ _ (s7 _ _ (s6 _ _ E5))), SqT.of (s8 _ _ E7),
      rw1 (SqT.of (s8 _ _ (s7 _ _ (s6 _ _ (s5 _ _ (s4 _ _ (s3 _ _ (s2 _ _ E1)))))))), rw2 (SqT.of (s8 _ _ (s7 _ _ (s6 _ _ (s5 _ _ (s4 _ _ E3)))))) (SqT.of (s8 _ _ (s7 _ _ (s6 _ _ (s5 _ _ E4))))), rw1 (SqT.of (s8 _ _ (s7 _ _ E6))),
      wok_B.b, wok_B.m, wok_B.e, wok_B.rb, wok_B.rm, wok_B.re, by decide, by decide, by decide, by decide, by decide, fun g1 us fr tt2 us2 => ⟨rfl, ?_⟩⟩
    have eus := usf_unique us2 usf_B
    subst eus
    have s07 := ((((((s1.trans s2).trans s3).trans s4).trans s5).trans s6).trans s7)
    have w2 : Same g0 g1 := fun a o e => fr a o (s8 a o (s07 a o e)) (ne_of_none (s07 a o e) nx1)
    clear fr s8 s07 E1 E2 E3 E4 E5 E6 E7 s1 s2 s3 s4 s5 s6 s7 nx1 ndx1 nex1 hp1 hb1 hm1 hm2 hmm he1 hee us2
    clear h1 h2 h3 h4 h5 h6 h7
    refine ⟨(by show 2 ≤ sizeLine; decide), fun p1 hp1 => ?_⟩
    have s1 := same_new (o := .tup [.int 0,.str "xx"]) hp1
    have E1 : upd g1 p1 (.tup [.int 0,.str "xx"]) p1 = some (.tup [.int 0,.str "xx"]) := upd_same
    generalize upd g1 p1 (.tup [.int 0,.str "xx"]) = h1 at s1 E1
    refine ⟨(by show 1 ≤ sizeLine; decide), fun b1 hb1 => ?_⟩
    have s2 := same_new (o := .tup [.ref p1]) hb1
    have E2 : upd h1 b1 (.tup [.ref p1]) b1 = some (.tup [.ref p1]) := upd_same
    generalize upd h1 b1 (.tup [.ref p1]) = h2 at s2 E2
    refine ⟨(by show 4 ≤ sizeLine; decide), fun m1 hm1 => ?_⟩
    have s3 := same_new (o := .tup [.int 0,.str "a",.str "xx",.int 0]) hm1
    have E3 : upd h2 m1 (.tup [.int 0,.str "a",.str "xx",.int 0]) m1 = some (.tup [.int 0,.str "a",.str "xx",.int 0]) := upd_same
    generalize upd h2 m1 (.tup [.int 0,.str "a",.str "xx",.int 0]) = h3 at s3 E3
    refine ⟨(by show 1 ≤ sizeLine; decide), fun mm hmm => ?_⟩
    have s5 := same_new (o := .tup [.ref m1]) hmm
    have E5 : upd h3 mm (.tup [.ref m1]) mm = some (.tup [.ref m1]) := upd_same
    generalize upd h3 mm (.tup [.ref m1]) = h5 at s5 E5
    refine ⟨(by show 2 ≤ sizeLine; decide), fun e1 he1 => ?_⟩
    have s6 := same_new (o := .tup [.int 1,.str ""]) he1
    have E6 : upd h5 e1 (.tup [.int 1,.str ""]) e1 = some (.tup [.int 1,.str ""]) := upd_same
    generalize upd h5 e1 (.tup [.int 1,.str ""]) = h6 at s6 E6
    refine ⟨(by show 1 ≤ sizeLine; decide), fun ee hee => ?_⟩
    have s7 := same_new (o := .tup [.ref e1]) hee
    have E7 : upd h6 ee (.tup [.ref e1]) ee = some (.tup [.ref e1]) := upd_same
    generalize upd h6 ee (.tup [.ref e1]) = h7 at s7 E7
    intro x3 dx1 nx1 ndx1 nex1
    have s8 : Same h7 (upd (upd h7 dx1 (.own x3)) x3 (.ins (aTr K) dx1 [])) := fun b o e => by
      rw [upd_ne (ne_of_none e nx1), upd_ne (ne_of_none e ndx1)]
      exact e
    refine ⟨x3, dx1, b1, mm, ee, tN.n, tN.bs, tN.ms, tN.es, [.ref p1], [.ref m1], [.ref e1], rfl, upd_same, SqT.of (s8 _ _ (s7 _ _ (s6 _ _ (s5 _ _ (s3 _ _ E2))))), SqT.of (s8 _ _ (s7 _ _ (s6 _ _ E5))), SqT.of (s8 _ _ E7),
      rw1 (SqT.of (s8 _ _ (s7 _ _ (s6 _ _ (s5 _ _ (s3 _ _ (s2 _ _ E1))))))), rw1 (SqT.of (s8 _ _ (s7 _ _ (s6 _ _ (s5 _ _ E3))))), rw1 (SqT.of (s8 _ _ (s7 _ _ E6))),
      wok_N.b, wok_N.m, wok_N.e, wok_N.rb, wok_N.rm, wok_N.re, by decide, by decide, by decide, by decide, by decide, fun g2 us fr tt3 usf3 => ⟨rfl, ?_⟩⟩
    have eus := usf_unique usf3 usf_N
    subst eus
    have s07 := (((((s1.trans s2).trans s3).trans s5).trans s6).trans s7)
    have w3 : Same g1 g2 := fun a o e => fr a o (s8 a o (s07 a o e)) (ne_of_none (s07 a o e) nx1)
    clear fr s8 s07 E1 E2 E3 E5 E6 E7 s1 s2 s3 s5 s6 s7 nx1 ndx1 nex1 hp1 hb1 hm1 hmm he1 hee usf3
    clear h1 h2 h3 h5 h6 h7
    have tt1' : TrAt K g2 x1 tT := TrAt.same tt1 (w2.trans w3)
    have tt2' : TrAt K g2 x2 tB := TrAt.same tt2 w3
    have tt3' : TrAt K g2 x3 tN := tt3
    refine ⟨_, rfl, ?_⟩
    unfold tNil tCons tC
    dsimp only
    show sp_leads K [V.ref x1] g2 _ _
    refine leads_due tt1' usf_T due_T2 due_T1 fun _ _ g3 l1 v3 q3 => ?_
    refine ⟨_, rfl, ?_⟩
    show sp_leads K [V.ref x2] g3 _ _
    refine leads_due (tt2'.same v3) usf_B (due_B (.inr rfl)) (due_B (.inl rfl)) fun _ _ g4 l2 v4 q4 => ?_
    refine ⟨_, rfl, ?_⟩
    show sp_leads K [V.ref x3] g4 _ _
    refine leads_due (tt3'.same (v3.trans v4)) usf_N due_N due_N fun _ _ g5 l3 v5 q5 => ?_
    refine ⟨(by show 3 ≤ sizeLine; decide), fun L hL => ?_⟩
    have v6 := same_new (o := .lst [.ref l1, .ref l2, .ref l3]) hL
    have LE : upd g5 L (.lst [.ref l1, .ref l2, .ref l3]) L = some (.lst [.ref l1, .ref l2, .ref l3]) := upd_same
    have q3' := sqT_same q3 ((v4.trans v5).trans v6)
    have q4' := sqT_same q4 (v5.trans v6)
    have q5' := sqT_same q5 v6
    generalize upd g5 L (.lst [.ref l1, .ref l2, .ref l3]) = h0 at v6 LE q3' q4' q5'
    refine ⟨(by show 2 ≤ sizeLine; decide), fun p1 hp1 => ?_⟩
    have s1 := same_new (o := .tup [.int 1,.int 2]) hp1
    have E1 : upd h0 p1 (.tup [.int 1,.int 2]) p1 = some (.tup [.int 1,.int 2]) := upd_same
    generalize upd h0 p1 (.tup [.int 1,.int 2]) = h1 at s1 E1
    refine ⟨(by show 2 ≤ sizeLine; decide), fun p2 hp2 => ?_⟩
    have s2 := same_new (o := .tup [.non,.non]) hp2
    have E2 : upd h1 p2 (.tup [.non,.non]) p2 = some (.tup [.non,.non]) := upd_same
    generalize upd h1 p2 (.tup [.non,.non]) = h2 at s2 E2
    refine ⟨(by show 2 ≤ sizeLine; decide), fun p3 hp3 => ?_⟩
    have s3 := same_new (o := .tup [.int 0,.int 0]) hp3
    have E3 : upd h2 p3 (.tup [.int 0,.int 0]) p3 = some (.tup [.int 0,.int 0]) := upd_same
    generalize upd h2 p3 (.tup [.int 0,.int 0]) = h3 at s3 E3
    refine ⟨(by show 3 ≤ sizeLine; decide), fun L2 hL2 => ?_⟩
    have s4 := same_new (o := .lst [.ref p1, .ref p2, .ref p3]) hL2
    have L2E : upd h3 L2 (.lst [.ref p1, .ref p2, .ref p3]) L2 = some (.lst [.ref p1, .ref p2, .ref p3]) := upd_same
    generalize upd h3 L2 (.lst [.ref p1, .ref p2, .ref p3]) = h4 at s4 L2E
    have s04 := ((s1.trans s2).trans s3).trans s4
    have i2 : ∀ {i j : Int} {H : Hp}, DpAll K H [.int i, .int j] [.int i, .int j] := fun {i j H} => .cons (.int i) (.cons (.int j) .nil)
    have n2 : ∀ {H : Hp}, DpAll K H [.non, .non] [.none, .none] := fun {H} => .cons .non (.cons .non .nil)
    have sh : SeqAt.shaped (.list [.tuple [.int 1, .int 2], .tuple [.none, .none], .tuple [.int 0, .int 0]]) = true := by decide +kernel
    refine ⟨.list [.tuple [.int 1, .int 2], .tuple [.none, .none], .tuple [.int 0, .int 0]], .list [.tuple [.int 1, .int 2], .tuple [.none, .none], .tuple [.int 0, .int 0]],
      .lst (SqL.of (s04 _ _ LE)) (.cons (.tup (sqT_same q3' s04) i2) (.cons (.tup (sqT_same q4' s04) n2) (.cons (.tup (sqT_same q5' s04) i2) .nil))),
      .lst (SqL.of L2E) (.cons (.tup (SqT.of (s4 _ _ (s3 _ _ (s2 _ _ E1)))) i2) (.cons (.tup (SqT.of (s4 _ _ (s3 _ _ E2))) n2) (.cons (.tup (SqT.of (s4 _ _ E3)) i2) .nil))), sh, sh, ?_⟩
    rw [SeqAt.eqv_refl _ (SeqAt.canLay_of_shaped sh)]
    exact q _
end
end K86
end
set_option maxHeartbeats 0
namespace K86
open PySem PySem.Spec PyProof.Rows L2
theorem facts {P : Program} {w : World} {K : PySem.W.Frag} {h : Heap} {mg : Str → Option Value} {f : Addr} (X : K.In h) (G : h.Ns mainGlobals mg) (hfa : mg ("law" : Str) = some (.ref f)) (c : He.SaysD fa fn K) (ex : extra K = true) :
    ∃ fd : FuncData, (∀ (s : Shared) (v : Value), BindsTo s fd ⟨[v], []⟩ [("_law_script", v)]) ∧ ∀ base : Heap, K.In base → base.Ns mainGlobals mg → FnG P w K mg base 10 f fd ["_law_script"] (sp_law K) := by
  have cn : Cn K mg := ⟨⟨h, X, G, ex⟩, c⟩
  obtain ⟨fd, F, O⟩ := FG_law (P := P) (w := w) cn
  have e := hfa.symm.trans (g_law cn)
  cases e
  have b := FunD.bindsA (ps := ["_law_script"]) F fun _ _ _ _ _ _ us hl => match us, hl with | [_], _ => rfl
  exact ⟨fd, fun s v => b s [v] rfl, fun base _ _ => O base⟩
end K86
open PySem PySem.W PySem.Calls PyProof.Rows
theorem PySem.Challenge.cw_streamwrights_k86_leads_and_paces_holds : PySem.Challenge.rw_streamwrights_k86_leads_and_paces.Holds := by
  w_on; o_law
  refine HandSHeadRun.head_any (r := OpenLaw.row PySem.Challenge.rw_streamwrights_k86_leads_and_paces) (q := view (OpenLaw.row PySem.Challenge.rw_streamwrights_k86_leads_and_paces).prog [103]) (H := K86.hookX) (ob := K86.ob) (M := 4400) (loose := K86.lo) (d := HandSHeadRun.topDef (OpenLaw.row PySem.Challenge.rw_streamwrights_k86_leads_and_paces).prog 103) (kwd := []) K86.ob_eq
    (by kernel_rfl) (fun s => by kernel_rfl) K86.run (by kernel_rfl) (by kernel_rfl) (by kernel_rfl) (by rfl) (by first | assumption | decide +kernel) (by decide +kernel) ⟨rfl, rfl, rfl, rfl, rfl, by decide +kernel⟩ ?hw ?hc
  case hw => w_witness2
  case hc =>
    refine K86.walkG (l := PySem.Challenge.rw_streamwrights_k86_leads_and_paces) (n := 63) (k := 10) (x := "_law_script") rfl (by decide) (by kernel_rfl) ⟨rfl, by decide, by decide⟩ ?F
    intro w mg fa h Y G hmg0
    obtain ⟨K, KX, c, ex⟩ := Y
    have hmg : mg ("law" : PySem.Str) = some (.ref fa) := by
      have e : (HandSHeadRun.topDef (OpenLaw.row PySem.Challenge.rw_streamwrights_k86_leads_and_paces).prog 103).name = ("law" : PySem.Str) := by kernel_rfl
      rw [← e]
      exact hmg0
    obtain ⟨fd, hb, hF⟩ := K86.facts (P := (PySem.Challenge.rw_streamwrights_k86_leads_and_paces).prog) (w := w) KX G hmg c ex
    exact ⟨K, fd, K86.sp_law K, KX, hb, fun H a ns hl _ hS => ⟨a, ns, rfl, hS, hl, fun _ => rfl⟩, hF⟩
