import PyProof.Rows.All
import Wide.All
import OpenK.AllK
import Wide.FinOn
import HandS.HeadHook3
import KE.KStateDown
import Wide.Once
import Lean
import HandS.Ends
import HandS.Words
import HandS.Head0
import HandS.Head1
import HandS.Head2
import HandS.HeadEnd
import HandS.Head3
import HandS.More
import HandS.Defaults
import PySem.Challenge.RW_breakback_k46_whole_best_breakers
import HandS.ForMost
import HandS.Flow
import HandS.Style
import HandS.Strs
import HandS.Conv
import HandS.Codes
import HandS.IsInst
import HandS.RevRange
import HandS.Gcd
import HandS.Wide
import HandS.WideMore
import HandS.CallRecv
import HandS.CallLocal
import HandS.TupLe
import HandS.Deep
import HandS.EndBits
import HandS.WordsExc
import HandS.New0
import PyProof.TupleOfStr
set_option Elab.async false
set_option linter.all false
set_option maxRecDepth 100000
set_option maxHeartbeats 0
namespace BB
open PySem PySem.Spec PyProof.Rows L2
def top (i : Nat) : Stmt := PySem.Challenge.pw_breakback_k46_whole_best_breakers.main.body.getD i (.Pass ⟨0, 0, 0, 0⟩)
abbrev sBits : Stmt := top 2
abbrev s_number_of : Stmt := top 3
abbrev s_is_number : Stmt := top 15
abbrev s_is_bits : Stmt := top 16
abbrev s_is_row : Stmt := top 17
abbrev s_half : Stmt := top 26
abbrev s_is_generator : Stmt := top 18
abbrev s_is_function : Stmt := top 19
abbrev s_check_block : Stmt := top 20
abbrev s_row_at : Stmt := top 21
abbrev s_value_at : Stmt := top 22
abbrev s_put_out : Stmt := top 23
abbrev s_longer : Stmt := top 24
abbrev s_go_down : Stmt := top 25
abbrev s_tree : Stmt := top 27
abbrev s_are_parts : Stmt := top 41
abbrev s_inner_plain : Stmt := top 42
abbrev s_check_plain : Stmt := top 43
abbrev s_has_plain_word : Stmt := top 48
abbrev s_check_breaker : Stmt := top 49
abbrev s_is_plain : Stmt := top 40
abbrev s_most_plain_asks : Stmt := top 50
abbrev s_most_asks : Stmt := top 51
abbrev s_Tape_init : Stmt := inClass (top 86) 0
abbrev s_Tape_draw : Stmt := inClass (top 86) 1
abbrev s_Tape_string : Stmt := inClass (top 86) 2
abbrev s_KeyedWorld_answer : Stmt := inClass (top 54) 1
abbrev s_AnyWorld_answer : Stmt := inClass (top 55) 1
abbrev s_Silent_answer : Stmt := inClass (top 53) 0
abbrev s_Notes_answer : Stmt := inClass (top 89) 1
abbrev s_Stopped_init : Stmt := inClass (top 64) 0
abbrev s_Stopped_now : Stmt := inClass (top 64) 1
abbrev s_made_string : Stmt := top 63
abbrev s_run_plain : Stmt := top 65
abbrev s_run_breaker : Stmt := top 84
abbrev s_KeyedWorld_init : Stmt := inClass (top 54) 0
abbrev s_AnyWorld_init : Stmt := inClass (top 55) 0
abbrev s_Notes_init : Stmt := inClass (top 89) 0
abbrev s_Play_init : Stmt := inClass (top 88) 0
abbrev s_cover : Stmt := top 90
abbrev s_function_world : Stmt := top 91
abbrev s_Table_init : Stmt := inClass (top 92) 0
abbrev s_Table_begin_asks : Stmt := inClass (top 92) 1
abbrev s_Table_begin_challenge : Stmt := inClass (top 92) 2
abbrev s_Table_has_won : Stmt := inClass (top 92) 4
abbrev s_played : Stmt := top 93
abbrev s_fraction : Stmt := top 95
abbrev s_add : Stmt := top 96
abbrev s_less : Stmt := top 97
abbrev s_next_choices : Stmt := top 98
abbrev s_Ways_init : Stmt := inClass (top 99) 0
abbrev s_Ways_count : Stmt := inClass (top 99) 1
abbrev s_Ways_chance : Stmt := inClass (top 99) 2
abbrev s_advantage : Stmt := top 100
abbrev s_told_apart : Stmt := top 103
abbrev s_looking : Stmt := top 104
abbrev s_best_of_rows : Stmt := top 105
abbrev s_best_from : Stmt := top 106
abbrev s_best : Stmt := top 107
abbrev s_layers_of : Stmt := top 111
abbrev s_tables_of : Stmt := top 112
abbrev s_built : Stmt := top 113
abbrev s_law_draws : Stmt := top 115
abbrev s_law_take : Stmt := top 116
abbrev s_law_string : Stmt := top 117
abbrev s_law_parts : Stmt := top 118
abbrev s_law_table : Stmt := top 120
abbrev s_law_function : Stmt := top 121
abbrev s_law_gcd : Stmt := top 122
abbrev s_law_fraction : Stmt := top 123
abbrev s_law_not_above : Stmt := top 124
abbrev s_law_breaker : Stmt := top 119
abbrev s_law_is_best : Stmt := top 125
abbrev s_law : Stmt := top 126
def fa0 : List He.Fa := [.glo "bits", .glo "number_of", .glo "is_number", .glo "is_bits", .glo "is_row", .glo "half", .glo "row_at", .glo "value_at", .glo "is_generator", .glo "is_function", .glo "check_block", .glo "put_out"]
def fa1 : List He.Fa := [.glo "longer", .glo "go_down", .glo "tree", .glo "are_parts", .glo "has_plain_word", .glo "inner_plain", .glo "check_plain", .glo "check_breaker", .glo "is_plain", .glo "most_plain_asks", .glo "most_asks", .glo "made_string"]
def fa2 : List He.Fa := [.glo "run_plain", .glo "run_breaker", .glo "cover", .glo "function_world", .glo "played", .glo "fraction", .glo "add", .glo "less", .glo "next_choices", .glo "told_apart", .glo "looking", .glo "best_of_rows"]
def fa3 : List He.Fa := [.glo "best_from", .glo "best", .glo "layers_of", .glo "tables_of", .glo "built", .glo "_law_take", .glo "_law_draws", .glo "_law_string", .glo "_law_parts", .glo "_law_table", .glo "_law_function", .glo "_law_gcd"]
def fa4 : List He.Fa := [.glo "_law_fraction", .glo "_law_not_above", .glo "_law_breaker", .glo "_law_is_best", .glo "law", .glo "advantage", .glo "Tape", .glo "Stopped", .glo "KeyedWorld", .glo "AnyWorld", .glo "Notes", .glo "Play"]
def fa5 : List He.Fa := [.glo "Table", .glo "Ways", .glo "Silent", .glo "OnetimeWorld", .glo "NOUGHT", .glo "PLAIN_WORDS", .glo "RUNS", .glo "LAYERS", .free "range", .free "len", .free "isinstance", .free "int"]
def fa6 : List He.Fa := [.free "str", .free "tuple", .free "bool", .free "list", .free "all", .free "abs", .free "max", .free "reversed", .free "sorted", .int "MOST_LENGTH" 40, .int "MOST_BIT" 9999, .int "MOST_TOSSED" 64]
def fa7 : List He.Fa := [.int "MOST_DEPTH" 60, .int "MOST_WITHIN" 2000, .int "MOST_DEEP" 8, .cls "Tape", .cls "Stopped", .cls "KeyedWorld", .cls "AnyWorld", .cls "Notes", .cls "Play", .cls "Table", .cls "Ways", .cls "Silent"]
def fa8 : List He.Fa := [.noat "Tape" "choices", .noat "Tape" "draws", .noat "KeyedWorld" "block", .noat "KeyedWorld" "key", .noat "AnyWorld" "tape", .noat "AnyWorld" "l", .noat "AnyWorld" "m", .noat "AnyWorld" "told", .noat "Stopped" "world", .noat "Notes" "world", .noat "Notes" "asked", .noat "Play" "outcome"]
def fa9 : List He.Fa := [.noat "Play" "said", .noat "Play" "draws", .noat "Play" "asked", .noat "Table" "game", .noat "Table" "tape", .noat "Table" "kind", .noat "Table" "challenge", .noat "Table" "world", .noat "Table" "secret", .noat "Ways" "most", .noat "Ways" "many", .noat "Ways" "won"]
def fa10 : List He.Fa := [.meth "Tape" "draw", .meth "Tape" "string", .meth "KeyedWorld" "answer", .meth "Silent" "answer", .meth "AnyWorld" "answer", .meth "Notes" "answer", .meth "Stopped" "now", .meth "Table" "has_won", .meth "Table" "begin_challenge", .meth "Table" "begin_asks", .meth "Ways" "count", .meth "Ways" "chance"]
def fa11 : List He.Fa := [.mkr "Tape", .mkr "Stopped", .mkr "KeyedWorld", .mkr "AnyWorld", .mkr "Notes", .mkr "Play", .mkr "Table", .mkr "Ways"]
def fa : List He.Fa := fa0 ++ fa1 ++ fa2 ++ fa3 ++ fa4 ++ fa5 ++ fa6 ++ fa7 ++ fa8 ++ fa9 ++ fa10 ++ fa11
def fn0 : List He.DefD := [⟨("bits", none), "bits", "bits", defArgs sBits, defBody sBits, defScope sBits, [], []⟩,
  ⟨("number_of", none), "number_of", "number_of", defArgs s_number_of, defBody s_number_of, defScope s_number_of, [], []⟩,
  ⟨("is_number", none), "is_number", "is_number", defArgs s_is_number, defBody s_is_number, defScope s_is_number, [], []⟩,
  ⟨("is_bits", none), "is_bits", "is_bits", defArgs s_is_bits, defBody s_is_bits, defScope s_is_bits, [], []⟩,
  ⟨("is_row", none), "is_row", "is_row", defArgs s_is_row, defBody s_is_row, defScope s_is_row, [], []⟩,
  ⟨("half", none), "half", "half", defArgs s_half, defBody s_half, defScope s_half, [], []⟩,
  ⟨("row_at", none), "row_at", "row_at", defArgs s_row_at, defBody s_row_at, defScope s_row_at, [], []⟩,
  ⟨("value_at", none), "value_at", "value_at", defArgs s_value_at, defBody s_value_at, defScope s_value_at, [], []⟩]
def fn1 : List He.DefD := [⟨("is_generator", none), "is_generator", "is_generator", defArgs s_is_generator, defBody s_is_generator, defScope s_is_generator, [], []⟩,
  ⟨("is_function", none), "is_function", "is_function", defArgs s_is_function, defBody s_is_function, defScope s_is_function, [], []⟩,
  ⟨("check_block", none), "check_block", "check_block", defArgs s_check_block, defBody s_check_block, defScope s_check_block, [], []⟩,
  ⟨("put_out", none), "put_out", "put_out", defArgs s_put_out, defBody s_put_out, defScope s_put_out, [], []⟩,
  ⟨("longer", none), "longer", "longer", defArgs s_longer, defBody s_longer, defScope s_longer, [], []⟩,
  ⟨("go_down", none), "go_down", "go_down", defArgs s_go_down, defBody s_go_down, defScope s_go_down, [], []⟩,
  ⟨("tree", none), "tree", "tree", defArgs s_tree, defBody s_tree, defScope s_tree, [], []⟩,
  ⟨("are_parts", none), "are_parts", "are_parts", defArgs s_are_parts, defBody s_are_parts, defScope s_are_parts, [], []⟩]
def fn2 : List He.DefD := [⟨("has_plain_word", none), "has_plain_word", "has_plain_word", defArgs s_has_plain_word, defBody s_has_plain_word, defScope s_has_plain_word, [], []⟩,
  ⟨("inner_plain", none), "inner_plain", "inner_plain", defArgs s_inner_plain, defBody s_inner_plain, defScope s_inner_plain, [], []⟩,
  ⟨("check_plain", none), "check_plain", "check_plain", defArgs s_check_plain, defBody s_check_plain, defScope s_check_plain, [], []⟩,
  ⟨("check_breaker", none), "check_breaker", "check_breaker", defArgs s_check_breaker, defBody s_check_breaker, defScope s_check_breaker, [], []⟩,
  ⟨("is_plain", none), "is_plain", "is_plain", defArgs s_is_plain, defBody s_is_plain, defScope s_is_plain, [], []⟩,
  ⟨("most_plain_asks", none), "most_plain_asks", "most_plain_asks", defArgs s_most_plain_asks, defBody s_most_plain_asks, defScope s_most_plain_asks, [], []⟩,
  ⟨("most_asks", none), "most_asks", "most_asks", defArgs s_most_asks, defBody s_most_asks, defScope s_most_asks, [], []⟩,
  ⟨("made_string", none), "made_string", "made_string", defArgs s_made_string, defBody s_made_string, defScope s_made_string, [], []⟩]
def fn3 : List He.DefD := [⟨("run_plain", none), "run_plain", "run_plain", defArgs s_run_plain, defBody s_run_plain, defScope s_run_plain, [], []⟩,
  ⟨("run_breaker", none), "run_breaker", "run_breaker", defArgs s_run_breaker, defBody s_run_breaker, defScope s_run_breaker, [], []⟩,
  ⟨("cover", none), "cover", "cover", defArgs s_cover, defBody s_cover, defScope s_cover, [], []⟩,
  ⟨("function_world", none), "function_world", "function_world", defArgs s_function_world, defBody s_function_world, defScope s_function_world, [], []⟩,
  ⟨("played", none), "played", "played", defArgs s_played, defBody s_played, defScope s_played, [], []⟩,
  ⟨("fraction", none), "fraction", "fraction", defArgs s_fraction, defBody s_fraction, defScope s_fraction, [], []⟩,
  ⟨("add", none), "add", "add", defArgs s_add, defBody s_add, defScope s_add, [], []⟩,
  ⟨("less", none), "less", "less", defArgs s_less, defBody s_less, defScope s_less, [], []⟩]
def fn4 : List He.DefD := [⟨("next_choices", none), "next_choices", "next_choices", defArgs s_next_choices, defBody s_next_choices, defScope s_next_choices, [], []⟩,
  ⟨("told_apart", none), "told_apart", "told_apart", defArgs s_told_apart, defBody s_told_apart, defScope s_told_apart, [], []⟩,
  ⟨("looking", none), "looking", "looking", defArgs s_looking, defBody s_looking, defScope s_looking, [], []⟩,
  ⟨("best_of_rows", none), "best_of_rows", "best_of_rows", defArgs s_best_of_rows, defBody s_best_of_rows, defScope s_best_of_rows, [], []⟩,
  ⟨("best_from", none), "best_from", "best_from", defArgs s_best_from, defBody s_best_from, defScope s_best_from, [], []⟩,
  ⟨("best", none), "best", "best", defArgs s_best, defBody s_best, defScope s_best, [], []⟩,
  ⟨("layers_of", none), "layers_of", "layers_of", defArgs s_layers_of, defBody s_layers_of, defScope s_layers_of, [], []⟩,
  ⟨("tables_of", none), "tables_of", "tables_of", defArgs s_tables_of, defBody s_tables_of, defScope s_tables_of, [], []⟩]
def fn5 : List He.DefD := [⟨("built", none), "built", "built", defArgs s_built, defBody s_built, defScope s_built, [], []⟩,
  ⟨("_law_take", none), "_law_take", "_law_take", defArgs s_law_take, defBody s_law_take, defScope s_law_take, [], []⟩,
  ⟨("_law_draws", none), "_law_draws", "_law_draws", defArgs s_law_draws, defBody s_law_draws, defScope s_law_draws, [], []⟩,
  ⟨("_law_string", none), "_law_string", "_law_string", defArgs s_law_string, defBody s_law_string, defScope s_law_string, [], []⟩,
  ⟨("_law_parts", none), "_law_parts", "_law_parts", defArgs s_law_parts, defBody s_law_parts, defScope s_law_parts, [], []⟩,
  ⟨("_law_table", none), "_law_table", "_law_table", defArgs s_law_table, defBody s_law_table, defScope s_law_table, [], []⟩,
  ⟨("_law_function", none), "_law_function", "_law_function", defArgs s_law_function, defBody s_law_function, defScope s_law_function, [], []⟩,
  ⟨("_law_gcd", none), "_law_gcd", "_law_gcd", defArgs s_law_gcd, defBody s_law_gcd, defScope s_law_gcd, [], []⟩]
def fn6 : List He.DefD := [⟨("_law_fraction", none), "_law_fraction", "_law_fraction", defArgs s_law_fraction, defBody s_law_fraction, defScope s_law_fraction, [], []⟩,
  ⟨("_law_not_above", none), "_law_not_above", "_law_not_above", defArgs s_law_not_above, defBody s_law_not_above, defScope s_law_not_above, [], []⟩,
  ⟨("_law_breaker", none), "_law_breaker", "_law_breaker", defArgs s_law_breaker, defBody s_law_breaker, defScope s_law_breaker, [], []⟩,
  ⟨("_law_is_best", none), "_law_is_best", "_law_is_best", defArgs s_law_is_best, defBody s_law_is_best, defScope s_law_is_best, [], []⟩,
  ⟨("law", none), "law", "law", defArgs s_law, defBody s_law, defScope s_law, [], []⟩,
  ⟨("advantage", none), "advantage", "advantage", defArgs s_advantage, defBody s_advantage, defScope s_advantage, [], [("most", .int 300000)]⟩,
  ⟨("Tape", some "draw"), "draw", "Tape.draw", defArgs s_Tape_draw, defBody s_Tape_draw, defScope s_Tape_draw, [], []⟩,
  ⟨("Tape", some "string"), "string", "Tape.string", defArgs s_Tape_string, defBody s_Tape_string, defScope s_Tape_string, [], []⟩]
def fn7 : List He.DefD := [⟨("KeyedWorld", some "answer"), "answer", "KeyedWorld.answer", defArgs s_KeyedWorld_answer, defBody s_KeyedWorld_answer, defScope s_KeyedWorld_answer, [], []⟩,
  ⟨("Silent", some "answer"), "answer", "Silent.answer", defArgs s_Silent_answer, defBody s_Silent_answer, defScope s_Silent_answer, [], []⟩,
  ⟨("AnyWorld", some "answer"), "answer", "AnyWorld.answer", defArgs s_AnyWorld_answer, defBody s_AnyWorld_answer, defScope s_AnyWorld_answer, [], []⟩,
  ⟨("Notes", some "answer"), "answer", "Notes.answer", defArgs s_Notes_answer, defBody s_Notes_answer, defScope s_Notes_answer, [], []⟩,
  ⟨("Stopped", some "now"), "now", "Stopped.now", defArgs s_Stopped_now, defBody s_Stopped_now, defScope s_Stopped_now, [], []⟩,
  ⟨("Table", some "has_won"), "has_won", "Table.has_won", defArgs s_Table_has_won, defBody s_Table_has_won, defScope s_Table_has_won, [], []⟩,
  ⟨("Table", some "begin_challenge"), "begin_challenge", "Table.begin_challenge", defArgs s_Table_begin_challenge, defBody s_Table_begin_challenge, defScope s_Table_begin_challenge, [], []⟩,
  ⟨("Table", some "begin_asks"), "begin_asks", "Table.begin_asks", defArgs s_Table_begin_asks, defBody s_Table_begin_asks, defScope s_Table_begin_asks, [], []⟩]
def fn8 : List He.DefD := [⟨("Ways", some "count"), "count", "Ways.count", defArgs s_Ways_count, defBody s_Ways_count, defScope s_Ways_count, [], []⟩,
  ⟨("Ways", some "chance"), "chance", "Ways.chance", defArgs s_Ways_chance, defBody s_Ways_chance, defScope s_Ways_chance, [], []⟩,
  ⟨("Tape", some "__init__"), "__init__", "Tape.__init__", defArgs s_Tape_init, defBody s_Tape_init, defScope s_Tape_init, [], []⟩,
  ⟨("Stopped", some "__init__"), "__init__", "Stopped.__init__", defArgs s_Stopped_init, defBody s_Stopped_init, defScope s_Stopped_init, [], []⟩,
  ⟨("KeyedWorld", some "__init__"), "__init__", "KeyedWorld.__init__", defArgs s_KeyedWorld_init, defBody s_KeyedWorld_init, defScope s_KeyedWorld_init, [], []⟩,
  ⟨("AnyWorld", some "__init__"), "__init__", "AnyWorld.__init__", defArgs s_AnyWorld_init, defBody s_AnyWorld_init, defScope s_AnyWorld_init, [], []⟩,
  ⟨("Notes", some "__init__"), "__init__", "Notes.__init__", defArgs s_Notes_init, defBody s_Notes_init, defScope s_Notes_init, [], []⟩,
  ⟨("Play", some "__init__"), "__init__", "Play.__init__", defArgs s_Play_init, defBody s_Play_init, defScope s_Play_init, [], []⟩]
def fn9 : List He.DefD := [⟨("Table", some "__init__"), "__init__", "Table.__init__", defArgs s_Table_init, defBody s_Table_init, defScope s_Table_init, [], []⟩,
  ⟨("Ways", some "__init__"), "__init__", "Ways.__init__", defArgs s_Ways_init, defBody s_Ways_init, defScope s_Ways_init, [], []⟩]
def fn : List He.DefD := fn0 ++ fn1 ++ fn2 ++ fn3 ++ fn4 ++ fn5 ++ fn6 ++ fn7 ++ fn8 ++ fn9
def dictRUNS : List PySem.Str := ["counter", "cut", "bit", "longer", "tree", "marks", "secrets", "once", "opening", "onetime", "next", "guess", "hard"]
def dictLAYERS : List PySem.Str := ["longer", "tree", "counter", "cut"]
def ts : List He.Tab := [(fun K => He.ga K "RUNS", dictRUNS), (fun K => He.ga K "LAYERS", dictLAYERS)]
/-- the further facts -/
def exL (K : PySem.W.Frag) : List Bool := [He.eqO (PySem.W.nsIn K mainGlobals "gcd") (some (some (.builtin "math.gcd"))),
  He.tupB K "NOUGHT" [.int 0, .int 1], He.tupB K "PLAIN_WORDS" [.str "say", .str "toss", .str "look", .str "ask"],
  He.eqO (PySem.W.findIn K (.ref (He.ga K "Notes")) "__class__") (some (some (.builtin "object.__class__"))),
  He.eqO (PySem.W.specialIn K (.builtin "object.__class__") "__get__") (some (some (.builtin "getset_descriptor.__get__"))),
  decide (PySem.W.takesIn K (.builtin "object.__class__") = some true),
  decide (PySem.W.mroIn K (He.ga K "Notes") (.type "object") = some true),
  decide (PySem.W.kitOne K (.ref (He.ga K "Notes")) (.ref (He.ga K "OnetimeWorld")) = some false),
  PySem.W.makesIn K (He.ga K "Silent"),
  He.eqO (PySem.W.findIn K (.ref (He.ga K "Silent")) "__init__") (some (some (.builtin "object.__init__"))),
  decide (PySem.W.mroIn K (He.ga K "Silent") (.type "object") = some true),
  PySem.W.keepIn K (.ref (He.ga K "Silent")),
  He.eqO (PySem.W.nsIn K (He.ga K "RUNS") "say") (some none), He.eqO (PySem.W.nsIn K (He.ga K "RUNS") "toss") (some none), He.eqO (PySem.W.nsIn K (He.ga K "RUNS") "look") (some none), He.eqO (PySem.W.nsIn K (He.ga K "RUNS") "ask") (some none),
  He.eqO (PySem.W.nsIn K (He.ga K "LAYERS") "longer") (some (some (.ref (He.ga K "longer")))), He.eqO (PySem.W.nsIn K (He.ga K "LAYERS") "tree") (some (some (.ref (He.ga K "tree"))))]
def exB (K : PySem.W.Frag) : Bool := (exL K).all id
abbrev AlX : Type := He.AlT × Bool
def obsX (K : PySem.W.Frag) : AlX := (He.obsT fa fn ts K, exB K)
def valX (w : World) : AlX := (He.valT fn ts w, true)
/-! the part of the heap that is looked at: names, functions' codes, classes' methods -/
def edges (o : Obj) : List Addr := match o.data with
  | .dict es _ => es.toList.flatMap fun e => He.refV e.val
  | .func fd => He.refV fd.code ++ He.refV fd.kwdefaults
  | .cls cd => [cd.ns]
  | _ => []
def front (g : Addr → Option Obj) (as : List Addr) : List Addr := as.flatMap fun a => match g a with
  | some o => edges o
  | none => []
def frL {β : Type} : List Addr → (List Addr → β) → β
  | [], k => k []
  | a :: r, k => HandSHeadRun.frNat a fun a' => frL r fun r' => k (a' :: r')
theorem frL_eq {β : Type} : ∀ (l : List Addr) (k : List Addr → β), frL l k = k l
  | [], k => rfl
  | a :: r, k => by rw [frL, HandSHeadRun.frNat_eq, frL_eq r]
def bld {β : Type} (g : Addr → Option Obj) : List Addr → PySem.W.Frag → (PySem.W.Frag → β) → β
  | [], acc, k => k acc
  | a :: r, acc, k => match g a with
    | some o => bld g r ((a, o) :: acc) k
    | none => bld g r acc k
theorem bld_eq {β : Type} (g : Addr → Option Obj) : ∀ (as : List Addr) (acc : PySem.W.Frag) (k : PySem.W.Frag → β), bld g as acc k = k (bld g as acc id)
  | [], acc, k => rfl
  | a :: r, acc, k => by
    rw [bld, bld]
    cases g a with
    | none => exact bld_eq g r acc k
    | some o => exact bld_eq g r _ k
theorem bld_mem (g : Addr → Option Obj) : ∀ (as : List Addr) (acc : PySem.W.Frag), (∀ p ∈ acc, g p.1 = some p.2) → ∀ p ∈ bld g as acc id, g p.1 = some p.2
  | [], acc, h, p, hp => h p hp
  | a :: r, acc, h, p, hp => by
    rw [bld] at hp
    cases e : g a with
    | none => rw [e] at hp; exact bld_mem g r acc h p hp
    | some o =>
      rw [e] at hp
      refine bld_mem g r _ (fun q hq => ?_) p hp
      rcases List.mem_cons.mp hq with z | z
      · rw [z]; exact e
      · exact h q z
def asF {β : Type} (g : Addr → Option Obj) (k : List Addr → β) : β := frL (front g [mainGlobals]) fun f1 => frL (front g f1) fun f2 => frL (front g f2) fun f3 => frL (front g f3) fun f4 => k (mainGlobals :: (f1 ++ (f2 ++ (f3 ++ f4))))
theorem asF_eq {β : Type} (g : Addr → Option Obj) (k : List Addr → β) : asF g k = k (asF g id) := by
  unfold asF
  simp only [frL_eq]; rfl
def frOf (g : Addr → Option Obj) : PySem.W.Frag := bld g (asF g id) [] id
theorem mem_lookup {a : Addr} {o : Obj} : ∀ {l : PySem.W.Frag}, l.lookup a = some o → (a, o) ∈ l
  | [], e => by cases e
  | (b, u) :: r, e => by
    have e2 : (match a == b with | true => some u | false => r.lookup a) = some o := e
    cases q : (a == b) with
    | true =>
      rw [q] at e2
      rw [beq_iff_eq.mp q, Option.some.inj e2]
      exact List.mem_cons_self
    | false =>
      rw [q] at e2
      exact List.mem_cons_of_mem _ (mem_lookup e2)
theorem frOf_in {h : Heap} : (frOf h.get?).In h := fun a o e => bld_mem h.get? _ [] (fun p hp => (by cases hp)) _ (mem_lookup e)
def obsF (g : Addr → Option Obj) : AlX := asF g fun as => bld g as [] fun K => obsX K
theorem obsF_eq (g : Addr → Option Obj) : obsF g = obsX (frOf g) := by
  unfold obsF frOf
  rw [asF_eq, bld_eq]
def SaysX (w : World) (K : PySem.W.Frag) : Prop := obsX K = valX w
def hookX : PySem.W.Hook where
  α := AlX
  obs := fun s => obsX (frOf s.heap.get?)
  val := fun w => valX w
  says := fun w h => ∃ K : PySem.W.Frag, K.In h ∧ SaysX w K
  of := fun _ _ e => ⟨_, frOf_in, e⟩
  keeps := fun _ _ _ ⟨K, hK, c⟩ k => ⟨K, PySem.W.Frag.In.keeps hK k, c⟩
theorem obsXG_eq {g : Addr → Option Obj} {s : Shared} (h : ∀ a, g a = s.heap.get? a) : obsF g = hookX.obs s := by
  have e : g = s.heap.get? := funext h
  rw [e, obsF_eq]; rfl
theorem SaysX.t {w : World} {K : PySem.W.Frag} (c : SaysX w K) : He.SaysT fa fn ts w K := congrArg (fun z : AlX => z.1) c
theorem SaysX.ex {w : World} {K : PySem.W.Frag} (c : SaysX w K) (i : Nat) {b : Bool} (h : (exL K)[i]? = some b := by rfl) : b = true := by
  have e : (exL K).all id = true := congrArg (fun z : AlX => z.2) c
  exact List.all_eq_true.mp e b (List.mem_of_getElem? h)


/-- what is looked at, told to a reader -/
def obsC {β : Type} (g : Addr → Option Obj) (k : PySem.W.Frag → β) : β := asF g fun as => bld g as [] k
theorem obsC_eq {β : Type} (g : Addr → Option Obj) (k : PySem.W.Frag → β) : obsC g k = k (frOf g) := by
  unfold obsC frOf
  rw [asF_eq, bld_eq]
abbrev R : PySem.W.OpenRow := PySem.W.OpenLaw.row PySem.Challenge.rw_breakback_k46_whole_best_breakers
abbrev qv : Program := PySem.W.view R.prog [0, 126]
def names0 : List PySem.Str := ["bits", "number_of", "xor", "parity", "BreakError", "BadBlock", "BadBreaker", "BadScheme", "BadChoice", "TooMany", "MOST_LENGTH", "is_number", "is_bits", "is_row"]
def names1 : List PySem.Str := ["is_generator", "is_function", "check_block", "row_at", "value_at", "put_out", "longer", "go_down", "half", "tree", "counter", "cut", "tree_turns", "PLAIN_WORDS", "MOST_BIT"]
def names2 : List PySem.Str := ["MOST_TOSSED", "MOST_DEPTH", "MOST_LAYERS", "MOST_WITHIN", "MOST_ASKS", "MOST_COUNTED", "is_plain", "are_parts", "inner_plain", "check_plain", "fits_longer", "fits_tree", "is_length", "fits_word", "has_plain_word"]
def names3 : List PySem.Str := ["check_breaker", "most_plain_asks", "most_asks", "Silent", "KeyedWorld", "AnyWorld", "PermutationWorld", "SwapWorld", "SecretWorld", "OnceWorld", "MarkWorld", "OnetimeWorld", "made_string", "Stopped", "run_plain"]
def names4 : List PySem.Str := ["run_longer", "TreeWorld", "run_tree", "run_marks", "guessed", "run_secrets", "run_once", "run_opening", "run_onetime", "prefix_challenge", "run_next", "run_guess", "run_counter", "run_cut", "run_bit"]
def names5 : List PySem.Str := ["squares_of", "run_hard", "RUNS", "run_breaker", "Tape", "Play", "Notes", "cover", "function_world", "Table", "played", "fraction", "add", "less", "next_choices"]
def names6 : List PySem.Str := ["Ways", "advantage", "NOUGHT", "told_apart", "looking", "best_of_rows", "best_from", "best", "MOST_DEEP", "LAYERS", "layers_of", "tables_of", "built", "_law_draws", "_law_take"]
def names7 : List PySem.Str := ["_law_string", "_law_parts", "_law_breaker", "_law_table", "_law_function", "_law_gcd", "_law_fraction", "_law_not_above", "_law_is_best"]
def names : List PySem.Str := names0 ++ names1 ++ names2 ++ names3 ++ names4 ++ names5 ++ names6 ++ names7
abbrev hk : PySem.W.Hook := hookX
def ob (s : PySem.W.SharedT) : AlX := obsF (HandSHeadRun.getT s)
theorem ob_eq (s : PySem.W.SharedT) : ob s = hk.obs s.abs := obsXG_eq (HandSHeadRun.getT_eq s)
theorem runA1f (w : World) : ((fun w : World => (HandSHeadRun.wholeF (fun p => HandSHeadRun.stepQ (HandSHeadRun.denQ HandSHeadRun.tabQ) p w) HandSHeadRun.fenceQ 20000 R.prog)) (w.withFollow "special-get-raises" false)).map (fun x => HandSHeadRun.looksF R.prog x.1.heap x.2.abs) = some ((fun _ => true) (w.withFollow "special-get-raises" false)) := by
  kernel_rfl
theorem runA1t (w : World) : ((fun w : World => (HandSHeadRun.wholeF (fun p => HandSHeadRun.stepQ (HandSHeadRun.denQ HandSHeadRun.tabQ) p w) HandSHeadRun.fenceQ 20000 R.prog)) (w.withFollow "special-get-raises" true)).map (fun x => HandSHeadRun.looksF R.prog x.1.heap x.2.abs) = some ((fun _ => true) (w.withFollow "special-get-raises" true)) := by
  kernel_rfl
theorem runA1 (w : World) : (HandSHeadRun.wholeF (fun p => HandSHeadRun.stepQ (HandSHeadRun.denQ HandSHeadRun.tabQ) p w) HandSHeadRun.fenceQ 20000 R.prog).map (fun x => HandSHeadRun.looksF R.prog x.1.heap x.2.abs) = some ((fun _ => true) w) := PySem.W.byRow2 "special-get-raises" (P := fun w => (HandSHeadRun.wholeF (fun p => HandSHeadRun.stepQ (HandSHeadRun.denQ HandSHeadRun.tabQ) p w) HandSHeadRun.fenceQ 20000 R.prog).map (fun x => HandSHeadRun.looksF R.prog x.1.heap x.2.abs) = some ((fun _ => true) w)) runA1f runA1t w
theorem runA2f (w : World) : ((fun w : World => (HandSHeadRun.wholeF (fun p => HandSHeadRun.stepQ (HandSHeadRun.denQ HandSHeadRun.tabQ) p w) HandSHeadRun.fenceQ 20000 R.prog)) (w.withFollow "special-get-raises" false)).map (fun x => HandSHeadRun.seenQ qv names (importedModules R.prog.main.body) (fun s => PySem.W.xlAt qv [] s && PySem.W.recOk R.toRowW.records s) x.2.abs) = some ((fun _ => PySem.W.openGood qv names) (w.withFollow "special-get-raises" false)) := by
  kernel_rfl
theorem runA2t (w : World) : ((fun w : World => (HandSHeadRun.wholeF (fun p => HandSHeadRun.stepQ (HandSHeadRun.denQ HandSHeadRun.tabQ) p w) HandSHeadRun.fenceQ 20000 R.prog)) (w.withFollow "special-get-raises" true)).map (fun x => HandSHeadRun.seenQ qv names (importedModules R.prog.main.body) (fun s => PySem.W.xlAt qv [] s && PySem.W.recOk R.toRowW.records s) x.2.abs) = some ((fun _ => PySem.W.openGood qv names) (w.withFollow "special-get-raises" true)) := by
  kernel_rfl
theorem runA2 (w : World) : (HandSHeadRun.wholeF (fun p => HandSHeadRun.stepQ (HandSHeadRun.denQ HandSHeadRun.tabQ) p w) HandSHeadRun.fenceQ 20000 R.prog).map (fun x => HandSHeadRun.seenQ qv names (importedModules R.prog.main.body) (fun s => PySem.W.xlAt qv [] s && PySem.W.recOk R.toRowW.records s) x.2.abs) = some ((fun _ => PySem.W.openGood qv names) w) := PySem.W.byRow2 "special-get-raises" (P := fun w => (HandSHeadRun.wholeF (fun p => HandSHeadRun.stepQ (HandSHeadRun.denQ HandSHeadRun.tabQ) p w) HandSHeadRun.fenceQ 20000 R.prog).map (fun x => HandSHeadRun.seenQ qv names (importedModules R.prog.main.body) (fun s => PySem.W.xlAt qv [] s && PySem.W.recOk R.toRowW.records s) x.2.abs) = some ((fun _ => PySem.W.openGood qv names) w)) runA2f runA2t w
theorem runB1f (w : World) : ((fun w : World => (HandSHeadRun.wholeF (fun p => HandSHeadRun.stepQ (HandSHeadRun.denQ HandSHeadRun.tabQ) p w) HandSHeadRun.fenceQ 20000 R.prog)) (w.withFollow "special-get-raises" false)).map (fun x => obsC (HandSHeadRun.getT x.2) fun K => fa.all fun f => f.ok K) = some ((fun _ => true) (w.withFollow "special-get-raises" false)) := by
  kernel_rfl
theorem runB1t (w : World) : ((fun w : World => (HandSHeadRun.wholeF (fun p => HandSHeadRun.stepQ (HandSHeadRun.denQ HandSHeadRun.tabQ) p w) HandSHeadRun.fenceQ 20000 R.prog)) (w.withFollow "special-get-raises" true)).map (fun x => obsC (HandSHeadRun.getT x.2) fun K => fa.all fun f => f.ok K) = some ((fun _ => true) (w.withFollow "special-get-raises" true)) := by
  kernel_rfl
theorem runB1 (w : World) : (HandSHeadRun.wholeF (fun p => HandSHeadRun.stepQ (HandSHeadRun.denQ HandSHeadRun.tabQ) p w) HandSHeadRun.fenceQ 20000 R.prog).map (fun x => obsC (HandSHeadRun.getT x.2) fun K => fa.all fun f => f.ok K) = some ((fun _ => true) w) := PySem.W.byRow2 "special-get-raises" (P := fun w => (HandSHeadRun.wholeF (fun p => HandSHeadRun.stepQ (HandSHeadRun.denQ HandSHeadRun.tabQ) p w) HandSHeadRun.fenceQ 20000 R.prog).map (fun x => obsC (HandSHeadRun.getT x.2) fun K => fa.all fun f => f.ok K) = some ((fun _ => true) w)) runB1f runB1t w
theorem runB2f (w : World) : ((fun w : World => (HandSHeadRun.wholeF (fun p => HandSHeadRun.stepQ (HandSHeadRun.denQ HandSHeadRun.tabQ) p w) HandSHeadRun.fenceQ 20000 R.prog)) (w.withFollow "special-get-raises" false)).map (fun x => obsC (HandSHeadRun.getT x.2) fun K => ((fn.all fun d => d.ok K), (fn.map fun d => He.fnW K d.at_), (ts.map fun t => He.dicW K (t.1 K)), exB K)) = some ((fun w => (true, fn.map He.DefD.val, ts.map (fun t => some (He.keysIn w.params t.2)), true)) (w.withFollow "special-get-raises" false)) := by
  kernel_rfl
theorem runB2t (w : World) : ((fun w : World => (HandSHeadRun.wholeF (fun p => HandSHeadRun.stepQ (HandSHeadRun.denQ HandSHeadRun.tabQ) p w) HandSHeadRun.fenceQ 20000 R.prog)) (w.withFollow "special-get-raises" true)).map (fun x => obsC (HandSHeadRun.getT x.2) fun K => ((fn.all fun d => d.ok K), (fn.map fun d => He.fnW K d.at_), (ts.map fun t => He.dicW K (t.1 K)), exB K)) = some ((fun w => (true, fn.map He.DefD.val, ts.map (fun t => some (He.keysIn w.params t.2)), true)) (w.withFollow "special-get-raises" true)) := by
  kernel_rfl
theorem runB2 (w : World) : (HandSHeadRun.wholeF (fun p => HandSHeadRun.stepQ (HandSHeadRun.denQ HandSHeadRun.tabQ) p w) HandSHeadRun.fenceQ 20000 R.prog).map (fun x => obsC (HandSHeadRun.getT x.2) fun K => ((fn.all fun d => d.ok K), (fn.map fun d => He.fnW K d.at_), (ts.map fun t => He.dicW K (t.1 K)), exB K)) = some ((fun w => (true, fn.map He.DefD.val, ts.map (fun t => some (He.keysIn w.params t.2)), true)) w) := PySem.W.byRow2 "special-get-raises" (P := fun w => (HandSHeadRun.wholeF (fun p => HandSHeadRun.stepQ (HandSHeadRun.denQ HandSHeadRun.tabQ) p w) HandSHeadRun.fenceQ 20000 R.prog).map (fun x => obsC (HandSHeadRun.getT x.2) fun K => ((fn.all fun d => d.ok K), (fn.map fun d => He.fnW K d.at_), (ts.map fun t => He.dicW K (t.1 K)), exB K)) = some ((fun w => (true, fn.map He.DefD.val, ts.map (fun t => some (He.keysIn w.params t.2)), true)) w)) runB2f runB2t w
theorem run (w : World) : HandSHeadRun.RunEqI R qv hk ob 20000 names w := by
  unfold HandSHeadRun.RunEqI
  obtain ⟨x, hx, e1⟩ := Option.map_eq_some_iff.mp (runA1 w)
  obtain ⟨x2, hx2, e2⟩ := Option.map_eq_some_iff.mp (runA2 w)
  obtain ⟨x3, hx3, e3⟩ := Option.map_eq_some_iff.mp (runB1 w)
  obtain ⟨x4, hx4, e4⟩ := Option.map_eq_some_iff.mp (runB2 w)
  rw [hx] at hx2 hx3 hx4
  cases (Option.some.inj hx2)
  cases (Option.some.inj hx3)
  cases (Option.some.inj hx4)
  rw [hx]
  have e1 : HandSHeadRun.looksF R.prog x.1.heap x.2.abs = true := e1
  have e2 : HandSHeadRun.seenQ qv names (importedModules R.prog.main.body) (fun s => PySem.W.xlAt qv [] s && PySem.W.recOk R.toRowW.records s) x.2.abs = PySem.W.openGood qv names := e2
  have e5 : ob x.2 = hk.val w := by
    show obsF (HandSHeadRun.getT x.2) = valX w
    rw [obsF_eq]
    have e3 : (obsC (HandSHeadRun.getT x.2) fun K => fa.all fun f => f.ok K) = true := e3
    have e4 : (obsC (HandSHeadRun.getT x.2) fun K => ((fn.all fun d => d.ok K), (fn.map fun d => He.fnW K d.at_), (ts.map fun t => He.dicW K (t.1 K)), exB K)) = (true, fn.map He.DefD.val, ts.map (fun t => some (He.keysIn w.params t.2)), true) := e4
    rw [obsC_eq] at e3 e4
    generalize frOf (HandSHeadRun.getT x.2) = K at e3 e4 ⊢
    simp only [Prod.mk.injEq] at e4
    obtain ⟨q1, q2, q3, q4⟩ := e4
    unfold obsX valX He.obsT He.valT He.obsD He.valD
    rw [e3, q1, q2, q3, q4]; rfl
  show some (HandSHeadRun.looksF R.prog x.1.heap x.2.abs, HandSHeadRun.seenQ qv names (importedModules R.prog.main.body) (fun s => PySem.W.xlAt qv [] s && PySem.W.recOk R.toRowW.records s) x.2.abs, ob x.2) = _
  rw [e1, e2, e5]
  rfl
end BB
set_option maxHeartbeats 200000
set_option Elab.async false
set_option autoImplicit false
set_option linter.all false
namespace BB
abbrev Bs := List Bool
/-- the string of n bits that writes v -/
def bitsOf : Nat → Nat → Bs
  | 0, _ => []
  | n + 1, v => bitsOf n (v / 2) ++ [v % 2 == 1]
def numOf (x : Bs) : Nat := x.foldl (fun a b => a * 2 + (if b then 1 else 0)) 0
theorem bitsOf_length : ∀ n v, (bitsOf n v).length = n
  | 0, _ => rfl
  | n + 1, v => by rw [bitsOf, List.length_append, bitsOf_length]; rfl
theorem numOf_append (x : Bs) (b : Bool) : numOf (x ++ [b]) = numOf x * 2 + (if b then 1 else 0) := by
  unfold numOf; rw [List.foldl_append]; rfl
theorem numOf_bitsOf : ∀ n v, v < 2 ^ n → numOf (bitsOf n v) = v
  | 0, v, h => by have : v = 0 := by simpa using h
                  subst this; rfl
  | n + 1, v, h => by
    rw [bitsOf, numOf_append, numOf_bitsOf n (v / 2) (by omega)]
    by_cases e : v % 2 = 1
    · simp [e]; omega
    · simp [e]; omega
theorem snoc_ind {P : Bs → Prop} (h0 : P []) (h1 : ∀ x b, P x → P (x ++ [b])) (x : Bs) : P x := by
  have : ∀ y : Bs, P y.reverse := by
    intro y
    induction y with
    | nil => exact h0
    | cons b y ih => rw [List.reverse_cons]; exact h1 _ _ ih
  have := this x.reverse
  rwa [List.reverse_reverse] at this
theorem numOf_lt (x : Bs) : numOf x < 2 ^ x.length := by
  induction x using snoc_ind with
  | h0 => decide
  | h1 x b ih =>
    rw [numOf_append, List.length_append, List.length_singleton, Nat.pow_succ]
    split <;> omega
theorem bitsOf_numOf (x : Bs) : bitsOf x.length (numOf x) = x := by
  induction x using snoc_ind with
  | h0 => rfl
  | h1 x b ih =>
    rw [numOf_append, List.length_append, List.length_singleton, bitsOf]
    have h1 : (numOf x * 2 + (if b then 1 else 0)) / 2 = numOf x := by split <;> omega
    have h2 : ((numOf x * 2 + (if b then 1 else 0)) % 2 == 1) = b := by cases b <;> simp <;> omega
    rw [h1, h2, ih]
theorem bitsOf_inj {n u v : Nat} (hu : u < 2 ^ n) (hv : v < 2 ^ n) (e : bitsOf n u = bitsOf n v) : u = v := by
  rw [← numOf_bitsOf n u hu, ← numOf_bitsOf n v hv, e]
theorem numOf_inj {x y : Bs} (hl : x.length = y.length) (e : numOf x = numOf y) : x = y := by
  rw [← bitsOf_numOf x, ← bitsOf_numOf y, hl, e]
def allBs (n : Nat) : List Bs := (List.range (2 ^ n)).map (bitsOf n)
theorem allBs_length (n : Nat) : (allBs n).length = 2 ^ n := by simp [allBs]
theorem mem_allBs {n : Nat} {x : Bs} : x ∈ allBs n ↔ x.length = n := by
  constructor
  · intro h
    obtain ⟨v, _, rfl⟩ := List.mem_map.mp h
    exact bitsOf_length n v
  · intro h
    subst h
    exact List.mem_map.mpr ⟨numOf x, List.mem_range.mpr (numOf_lt x), bitsOf_numOf x⟩
theorem allBs_get {n v : Nat} (h : v < 2 ^ n) : (allBs n)[v]? = some (bitsOf n v) := by
  unfold allBs
  rw [List.getElem?_map, List.getElem?_range h]; rfl

/-! sums of fractions over a list -/
def sumR {α : Type} (l : List α) (f : α → Rat) : Rat := (l.map f).sum
theorem sumR_nil {α : Type} (f : α → Rat) : sumR [] f = 0 := rfl
theorem sumR_cons {α : Type} (a : α) (l : List α) (f : α → Rat) : sumR (a :: l) f = f a + sumR l f := by
  unfold sumR; rw [List.map_cons, List.sum_cons]
theorem sumR_append {α : Type} (l k : List α) (f : α → Rat) : sumR (l ++ k) f = sumR l f + sumR k f := by
  induction l with
  | nil => rw [List.nil_append, sumR_nil]; grind
  | cons a l ih => rw [List.cons_append, sumR_cons, sumR_cons, ih]; grind
theorem sumR_map {α β : Type} (l : List α) (g : α → β) (f : β → Rat) : sumR (l.map g) f = sumR l (fun a => f (g a)) := by
  unfold sumR; rw [List.map_map]; rfl
theorem sumR_congr {α : Type} {l : List α} {f g : α → Rat} (h : ∀ a ∈ l, f a = g a) : sumR l f = sumR l g := by
  unfold sumR; rw [List.map_congr_left h]
theorem sumR_add {α : Type} (l : List α) (f g : α → Rat) : sumR l (fun a => f a + g a) = sumR l f + sumR l g := by
  induction l with
  | nil => simp only [sumR_nil]; grind
  | cons a l ih => simp only [sumR_cons]; rw [ih]; grind
theorem sumR_sub {α : Type} (l : List α) (f g : α → Rat) : sumR l (fun a => f a - g a) = sumR l f - sumR l g := by
  induction l with
  | nil => simp only [sumR_nil]; grind
  | cons a l ih => simp only [sumR_cons]; rw [ih]; grind
theorem sumR_mul {α : Type} (c : Rat) (l : List α) (f : α → Rat) : sumR l (fun a => c * f a) = c * sumR l f := by
  induction l with
  | nil => simp only [sumR_nil]; grind
  | cons a l ih => simp only [sumR_cons]; rw [ih]; grind
theorem sumR_mul' {α : Type} (c : Rat) (l : List α) (f : α → Rat) : sumR l (fun a => f a * c) = sumR l f * c := by
  induction l with
  | nil => simp only [sumR_nil]; grind
  | cons a l ih => simp only [sumR_cons]; rw [ih]; grind
theorem sumR_div {α : Type} (c : Rat) (l : List α) (f : α → Rat) : sumR l (fun a => f a / c) = sumR l f / c := by
  simp only [Rat.div_def]; exact sumR_mul' _ _ _
theorem sumR_zero {α : Type} (l : List α) : sumR l (fun _ => 0) = 0 := by
  induction l with
  | nil => rfl
  | cons a l ih => rw [sumR_cons, ih]; grind
theorem sumR_const {α : Type} (c : Rat) (l : List α) : sumR l (fun _ => c) = l.length * c := by
  induction l with
  | nil => simp only [sumR_nil, List.length_nil]; grind
  | cons a l ih => rw [sumR_cons, ih, List.length_cons]; grind
theorem sumR_le {α : Type} {l : List α} {f g : α → Rat} (h : ∀ a ∈ l, f a ≤ g a) : sumR l f ≤ sumR l g := by
  induction l with
  | nil => simp only [sumR_nil]; grind
  | cons a l ih =>
    simp only [sumR_cons]
    have := h a (List.mem_cons_self ..)
    have := ih fun b hb => h b (List.mem_cons_of_mem _ hb)
    grind
theorem sumR_nonneg {α : Type} {l : List α} {f : α → Rat} (h : ∀ a ∈ l, 0 ≤ f a) : 0 ≤ sumR l f := by
  have := sumR_le (l := l) (f := fun _ => 0) (g := f) h
  rw [sumR_zero] at this; exact this
theorem sumR_swap {α β : Type} (l : List α) (k : List β) (f : α → β → Rat) :
    sumR l (fun a => sumR k (fun b => f a b)) = sumR k (fun b => sumR l (fun a => f a b)) := by
  induction l with
  | nil => simp only [sumR_nil, sumR_zero]
  | cons a l ih => simp only [sumR_cons, sumR_add]; rw [ih]
theorem sumR_range2 (N : Nat) (f : Nat → Rat) : sumR (List.range (2 * N)) f = sumR (List.range N) (fun u => f (2 * u) + f (2 * u + 1)) := by
  induction N with
  | zero => rfl
  | succ N ih =>
    rw [show 2 * (N + 1) = 2 * N + 1 + 1 by omega, List.range_succ, List.range_succ, List.range_succ]
    simp only [sumR_append, ih, sumR_cons, sumR_nil]
    grind
theorem sumB_succ (n : Nat) (f : Bs → Rat) : sumR (allBs (n + 1)) f = sumR (allBs n) (fun x => f (x ++ [false]) + f (x ++ [true])) := by
  unfold allBs
  rw [sumR_map, sumR_map, Nat.pow_succ, Nat.mul_comm, sumR_range2]
  refine sumR_congr fun u _ => ?_
  have h1 : bitsOf (n + 1) (2 * u) = bitsOf n u ++ [false] := by
    rw [bitsOf, show 2 * u / 2 = u by omega, show 2 * u % 2 = 0 by omega]; rfl
  have h2 : bitsOf (n + 1) (2 * u + 1) = bitsOf n u ++ [true] := by
    rw [bitsOf, show (2 * u + 1) / 2 = u by omega, show (2 * u + 1) % 2 = 1 by omega]; rfl
  rw [h1, h2]
theorem sumB_zero (f : Bs → Rat) : sumR (allBs 0) f = f [] := by
  show sumR [[]] f = _
  rw [sumR_cons, sumR_nil]; grind
theorem sumB_add (a b : Nat) (f : Bs → Rat) : sumR (allBs (a + b)) f = sumR (allBs a) (fun x => sumR (allBs b) (fun y => f (x ++ y))) := by
  induction b generalizing f with
  | zero => simp only [Nat.add_zero, sumB_zero, List.append_nil]
  | succ b ih =>
    rw [← Nat.add_assoc, sumB_succ, ih]
    refine sumR_congr fun x _ => ?_
    rw [sumB_succ]
    simp only [List.append_assoc]
theorem sumB_cons (n : Nat) (f : Bs → Rat) : sumR (allBs (n + 1)) f = sumR (allBs n) (fun x => f (false :: x) + f (true :: x)) := by
  rw [Nat.add_comm, sumB_add]
  rw [sumB_succ, sumB_zero, sumR_add]; rfl
/-- one is the string at hand: a sum with a test is the value there -/
theorem sumB_pick (n : Nat) (y : Bs) (hy : y.length = n) (c : Bs → Rat) : sumR (allBs n) (fun v => if y = v then c v else 0) = c y := by
  induction n generalizing y c with
  | zero => 
    have : y = [] := List.length_eq_zero_iff.mp hy
    subst this; rw [sumB_zero]; simp
  | succ n ih =>
    match y, hy with
    | b :: y, hy =>
      have hy' : y.length = n := by simpa using hy
      rw [sumB_cons]
      cases b
      · have : ∀ x, (if (false :: y : Bs) = false :: x then c (false :: x) else 0) + (if (false :: y : Bs) = true :: x then c (true :: x) else 0) = (if y = x then c (false :: x) else 0) := by
          intro x; simp; grind
        simp only [this]
        exact ih y hy' (fun x => c (false :: x))
      · have : ∀ x, (if (true :: y : Bs) = false :: x then c (false :: x) else 0) + (if (true :: y : Bs) = true :: x then c (true :: x) else 0) = (if y = x then c (true :: x) else 0) := by
          intro x; simp; grind
        simp only [this]
        exact ih y hy' (fun x => c (true :: x))
/-- a sum over a list, sorted by a value of m bits -/
theorem sumR_split {α : Type} (l : List α) (m : Nat) (val : α → Bs) (hv : ∀ a ∈ l, (val a).length = m) (f : α → Rat) :
    sumR l f = sumR (allBs m) (fun v => sumR (l.filter (fun a => decide (val a = v))) f) := by
  induction l with
  | nil => simp only [List.filter_nil, sumR_nil, sumR_zero]
  | cons a l ih =>
    have e : ∀ v, sumR ((a :: l).filter (fun a => decide (val a = v))) f = (if val a = v then f a else 0) + sumR (l.filter (fun a => decide (val a = v))) f := by
      intro v
      rw [List.filter_cons]
      by_cases h : val a = v
      · simp only [h, decide_true, if_true, sumR_cons]
      · simp only [h, decide_false, if_false]; grind
    simp only [e, sumR_add]
    rw [sumR_cons, ← ih fun b hb => hv b (List.mem_cons_of_mem _ hb)]
    rw [sumB_pick m (val a) (hv a (List.mem_cons_self ..)) (fun _ => f a)]
end BB

set_option autoImplicit false
set_option linter.all false
namespace BB
/-! ### plays as trees of draws -/
inductive Tr where
  | leaf (s : Bs)
  | node (ts : List Tr)
abbrev Path := List (Nat × Nat)
mutual
/-- the play along told choices (nought behind them): its draws and what is said; none where a choice is too large -/
def follow : Tr → List Nat → Option (Path × Bs)
  | .leaf s, _ => some ([], s)
  | .node ts, ch => (followL ts (ch.headD 0) ch.tail).map fun r => ((ch.headD 0, ts.length) :: r.1, r.2)
def followL : List Tr → Nat → List Nat → Option (Path × Bs)
  | [], _, _ => none
  | t :: _, 0, ch => follow t ch
  | _ :: ts, k + 1, ch => followL ts k ch
end
theorem followL_get : ∀ (ts : List Tr) (k : Nat) (ch : List Nat), followL ts k ch = (ts[k]?).bind fun t => follow t ch
  | [], k, ch => by simp [followL]
  | t :: ts, 0, ch => by simp [followL]
  | t :: ts, k + 1, ch => by rw [followL, followL_get ts k ch]; simp
theorem follow_node (ts : List Tr) (ch : List Nat) : follow (.node ts) ch = (ts[ch.headD 0]?).bind fun t => (follow t ch.tail).map fun r => ((ch.headD 0, ts.length) :: r.1, r.2) := by
  rw [follow, followL_get]
  cases ts[ch.headD 0]? <;> rfl
mutual
/-- no node is without a way -/
def Tr.ok : Tr → Prop
  | .leaf _ => True
  | .node ts => ts ≠ [] ∧ okL ts
def okL : List Tr → Prop
  | [] => True
  | t :: ts => t.ok ∧ okL ts
end
theorem okL_iff : ∀ ts : List Tr, okL ts ↔ ∀ t ∈ ts, t.ok
  | [] => by simp [okL]
  | t :: ts => by rw [okL, okL_iff ts]; simp
mutual
/-- all ways, in order -/
def leaves : Tr → List (Path × Bs)
  | .leaf s => [([], s)]
  | .node ts => leavesL ts 0 ts.length
def leavesL : List Tr → Nat → Nat → List (Path × Bs)
  | [], _, _ => []
  | t :: ts, i, n => (leaves t).map (fun r => ((i, n) :: r.1, r.2)) ++ leavesL ts (i + 1) n
end
/-- the choices of the next way -/
def nextC : Path → Option (List Nat)
  | [] => none
  | (c, m) :: r => match nextC r with
    | some cs => some (c :: cs)
    | none => if c + 1 < m then some [c + 1] else none
/-- from these choices on the ways are these -/
inductive Seq (F : List Nat → Option (Path × Bs)) : Option (List Nat) → List (Path × Bs) → Prop where
  | nil : Seq F none []
  | cons {cs : List Nat} {r : Path × Bs} {L : List (Path × Bs)} : F cs = some r → Seq F (nextC r.1) L → Seq F (some cs) (r :: L)
theorem seq_lift {ts : List Tr} {j : Nat} {t : Tr} (hj : ts[j]? = some t) {R : List (Path × Bs)} (hR : Seq (follow (.node ts)) (if j + 1 < ts.length then some [j + 1] else none) R) :
    ∀ {L : List (Path × Bs)} {o : Option (List Nat)}, Seq (follow t) o L → ∀ (q : List Nat → List Nat), (∀ cs, o = some cs → (q cs).headD 0 = j ∧ (q cs).tail = cs) →
      Seq (follow (.node ts)) (match o with | some cs => some (q cs) | none => if j + 1 < ts.length then some [j + 1] else none) (L.map (fun r => ((j, ts.length) :: r.1, r.2)) ++ R) := by
  intro L
  induction L with
  | nil => intro o h q _; cases h; exact hR
  | cons r L ih =>
    intro o h q hq
    cases h with
    | @cons cs _ _ h1 h2 =>
      obtain ⟨q1, q2⟩ := hq cs rfl
      refine Seq.cons (r := ((j, ts.length) :: r.1, r.2)) ?_ ?_
      · rw [follow_node, q1, q2, hj]
        simp [h1]
      · have := ih h2 (fun cs => j :: cs) (fun cs _ => ⟨rfl, rfl⟩)
        rw [nextC]
        cases e : nextC r.1 with
        | none => rw [e] at this; exact this
        | some cs' => rw [e] at this; exact this
mutual
theorem seq_leaves : ∀ (t : Tr), t.ok → Seq (follow t) (some []) (leaves t)
  | .leaf s, _ => by rw [leaves]; exact Seq.cons rfl Seq.nil
  | .node ts, h => by
    rw [leaves]
    obtain ⟨h0, h1⟩ := h
    have := seq_leavesL ts h1 ts 0 (by simp)
    match ts, h0 with
    | t :: ts', _ =>
      rw [leavesL]
      have h1' : t.ok := h1.1
      have hs := seq_leaves t h1'
      have hR : Seq (follow (.node (t :: ts'))) (if 0 + 1 < (t :: ts').length then some [0 + 1] else none) (leavesL ts' 1 (t :: ts').length) := by
        have := seq_leavesL ts' h1.2 (t :: ts') 1 (by simp)
        simpa using this
      exact seq_lift (j := 0) (t := t) rfl hR hs (fun _ => []) (fun cs e => by cases e; exact ⟨rfl, rfl⟩)
theorem seq_leavesL : ∀ (us : List Tr), okL us → ∀ (ts : List Tr) (j : Nat), ts.drop j = us → Seq (follow (.node ts)) (if j < ts.length then some [j] else none) (leavesL us j ts.length)
  | [], _, ts, j, e => by
    have : ¬ j < ts.length := by
      have := congrArg List.length e
      simp at this; omega
    rw [if_neg this, leavesL]; exact Seq.nil
  | u :: us, h, ts, j, e => by
    have hl : j < ts.length := by
      have := congrArg List.length e
      simp at this; omega
    have hj : ts[j]? = some u := by
      have := congrArg (fun l => l[0]?) e
      simpa using this
    have e' : ts.drop (j + 1) = us := by
      rw [← List.tail_drop, e]; rfl
    rw [if_pos hl, leavesL]
    have hR := seq_leavesL us h.2 ts (j + 1) e'
    have hs := seq_leaves u h.1
    exact seq_lift hj hR hs (fun _ => [j]) (fun cs e => by cases e; exact ⟨rfl, rfl⟩)
end
/-! ### chances -/
def won (s : Bs) : Bool := s == [true]
def b2r (b : Bool) : Rat := if b then 1 else 0
mutual
def Tr.p : Tr → Rat
  | .leaf s => b2r (won s)
  | .node ts => pL ts / ts.length
def pL : List Tr → Rat
  | [] => 0
  | t :: ts => t.p + pL ts
end
theorem pL_sum : ∀ ts : List Tr, pL ts = sumR ts Tr.p
  | [] => rfl
  | t :: ts => by rw [pL, pL_sum ts, sumR_cons]
theorem p_node (ts : List Tr) : (Tr.node ts).p = sumR ts Tr.p / ts.length := by rw [Tr.p, pL_sum]
/-- the product of the numbers drawn among -/
def under (p : Path) : Nat := p.foldl (fun a c => a * c.2) 1
theorem under_foldl (p : Path) : ∀ a : Nat, p.foldl (fun a c => a * c.2) a = a * under p := by
  induction p with
  | nil => intro a; simp [under]
  | cons c p ih =>
    intro a
    unfold under
    rw [List.foldl_cons, List.foldl_cons, ih, ih (1 * c.2)]
    simp [Nat.mul_assoc]
theorem under_cons (c : Nat × Nat) (p : Path) : under (c :: p) = c.2 * under p := by
  rw [under, List.foldl_cons, under_foldl]; simp
theorem under_nil : under [] = 1 := rfl
def wt (r : Path × Bs) : Rat := b2r (won r.2) / (under r.1 : Nat)
theorem rat_div_mul (a b c : Rat) : a / (b * c) = (a / c) / b := by
  rw [Rat.div_def, Rat.div_def, Rat.div_def, Rat.inv_mul_rev]; grind
mutual
theorem p_leaves : ∀ t : Tr, sumR (leaves t) wt = t.p
  | .leaf s => by
    rw [leaves, sumR_cons, sumR_nil, Tr.p, wt, under_nil]; simp; grind
  | .node ts => by
    rw [leaves, p_leavesL ts 0 ts.length, p_node]
theorem p_leavesL : ∀ (ts : List Tr) (i n : Nat), sumR (leavesL ts i n) wt = sumR ts Tr.p / n
  | [], i, n => by rw [leavesL, sumR_nil, sumR_nil]; grind
  | t :: ts, i, n => by
    rw [leavesL, sumR_append, p_leavesL ts (i + 1) n, sumR_map, sumR_cons]
    have : sumR (leaves t) (fun r => wt ((i, n) :: r.1, r.2)) = t.p / n := by
      rw [← p_leaves t, ← sumR_div]
      refine sumR_congr fun r _ => ?_
      unfold wt
      rw [under_cons]
      simp only [Rat.natCast_mul]
      exact rat_div_mul _ _ _
    rw [this]
    grind
end
theorem rat_div_le {a b c : Rat} (hb : 0 < b) (h : a ≤ c * b) : a / b ≤ c := by
  refine Rat.not_lt.mp fun q => ?_
  have := (Rat.lt_div_iff hb).mp q
  exact absurd this (Rat.not_lt.mpr h)
mutual
theorem p_range : ∀ t : Tr, t.ok → 0 ≤ t.p ∧ t.p ≤ 1
  | .leaf s, _ => by rw [Tr.p]; unfold b2r; split <;> grind
  | .node ts, h => by
    obtain ⟨h0, h1⟩ := h
    have q := p_rangeL ts h1
    rw [p_node]
    have hl : 0 < ts.length := List.length_pos_iff.mpr h0
    have hl' : (0 : Rat) < (ts.length : Rat) := by exact_mod_cast hl
    refine ⟨?_, ?_⟩
    · rw [Rat.div_def]; exact Rat.mul_nonneg q.1 (Rat.le_of_lt (Rat.inv_pos.mpr hl'))
    · exact rat_div_le hl' (by grind)
theorem p_rangeL : ∀ ts : List Tr, okL ts → 0 ≤ sumR ts Tr.p ∧ sumR ts Tr.p ≤ ts.length
  | [], _ => by rw [sumR_nil]; simp
  | t :: ts, h => by
    have a := p_range t h.1
    have b := p_rangeL ts h.2
    rw [sumR_cons, List.length_cons]
    push_cast
    grind
end
end BB

set_option autoImplicit false
set_option linter.all false
namespace BB
inductive Part where
  | lit (b : Bool)
  | bit (i : Nat)
inductive Brk where
  | say (ps : List Part)
  | toss (bs : List Brk)
  | look (i : Nat) (f s : Brk)
  | ask (ps : List Part) (next : Brk)
def Part.get (h : Bs) : Part → Bool
  | .lit b => b
  | .bit i => h.getD i false
def made (ps : List Part) (h : Bs) : Bs := ps.map (Part.get h)
inductive Wd where
  | det (f : Bs → Bs)
  | any (l m : Nat) (told : List (Bs × Bs))
mutual
def tr : Brk → Wd → Bs → Tr
  | .say ps, _, h => .leaf (made ps h)
  | .toss bs, w, h => .node (trL bs w h)
  | .look i f s, w, h => if h.getD i false then tr s w h else tr f w h
  | .ask ps next, .det f, h => tr next (.det f) (h ++ f (made ps h))
  | .ask ps next, .any l m told, h =>
    if (made ps h).length = l then
      match told.lookup (made ps h) with
      | some a => tr next (.any l m told) (h ++ a)
      | none => .node ((allBs m).map fun v => tr next (.any l m (told ++ [(made ps h, v)])) (h ++ v))
    else tr next (.any l m told) h
def trL : List Brk → Wd → Bs → List Tr
  | [], _, _ => []
  | b :: bs, w, h => tr b w h :: trL bs w h
end
theorem trL_map (w : Wd) (h : Bs) : ∀ bs : List Brk, trL bs w h = bs.map fun b => tr b w h
  | [] => rfl
  | b :: bs => by rw [trL, trL_map w h bs]; rfl
mutual
def Brk.asks : Brk → Nat
  | .say _ => 0
  | .toss bs => asksL bs
  | .look _ f s => max f.asks s.asks
  | .ask _ next => next.asks + 1
def asksL : List Brk → Nat
  | [] => 0
  | b :: bs => max b.asks (asksL bs)
end
mutual
/-- every toss has a way -/
def Brk.wf : Brk → Prop
  | .say _ => True
  | .toss bs => bs ≠ [] ∧ wfL bs
  | .look _ f s => f.wf ∧ s.wf
  | .ask _ next => next.wf
def wfL : List Brk → Prop
  | [] => True
  | b :: bs => b.wf ∧ wfL bs
end
mutual
theorem tr_ok : ∀ (b : Brk) (w : Wd) (h : Bs), b.wf → (tr b w h).ok
  | .say ps, w, h, _ => by rw [tr, Tr.ok]; trivial
  | .toss bs, w, h, q => by
    rw [tr, Tr.ok]
    refine ⟨?_, trL_ok bs w h q.2⟩
    rw [trL_map]
    intro e
    exact q.1 (by simpa using e)
  | .look i f s, w, h, q => by
    rw [tr]
    split
    · exact tr_ok s w h q.2
    · exact tr_ok f w h q.1
  | .ask ps next, .det f, h, q => by rw [tr]; exact tr_ok next _ _ q
  | .ask ps next, .any l m told, h, q => by
    rw [tr]
    split
    · split
      · exact tr_ok next _ _ q
      · rw [Tr.ok, okL_iff]
        refine ⟨?_, ?_⟩
        · intro e
          have := congrArg List.length e
          simp [allBs_length] at this
        · intro t ht
          obtain ⟨v, _, rfl⟩ := List.mem_map.mp ht
          exact tr_ok next _ _ q
    · exact tr_ok next _ _ q
theorem trL_ok : ∀ (bs : List Brk) (w : Wd) (h : Bs), wfL bs → okL (trL bs w h)
  | [], _, _, _ => by rw [trL, okL]; trivial
  | b :: bs, w, h, q => by rw [trL, okL]; exact ⟨tr_ok b w h q.1, trL_ok bs w h q.2⟩
end
/-- the chance that it says 1 -/
def P (b : Brk) (w : Wd) (h : Bs) : Rat := (tr b w h).p
def pw (m : Nat) : Rat := ((2 ^ m : Nat) : Rat)
theorem pw_pos (m : Nat) : 0 < pw m := by
  have : 0 < 2 ^ m := Nat.two_pow_pos m
  unfold pw; exact_mod_cast this
theorem pw_add (a b : Nat) : pw (a + b) = pw a * pw b := by
  unfold pw; rw [Nat.pow_add]; push_cast; rfl
theorem pw_zero : pw 0 = 1 := rfl
theorem pw_ne (m : Nat) : pw m ≠ 0 := Rat.ne_of_gt (pw_pos m)
theorem P_say (ps : List Part) (w : Wd) (h : Bs) : P (.say ps) w h = b2r (won (made ps h)) := by rw [P, tr, Tr.p]
theorem P_toss (bs : List Brk) (w : Wd) (h : Bs) : P (.toss bs) w h = sumR bs (fun b => P b w h) / bs.length := by
  rw [P, tr, p_node, trL_map, sumR_map, List.length_map]; rfl
theorem P_look (i : Nat) (f s : Brk) (w : Wd) (h : Bs) : P (.look i f s) w h = if h.getD i false then P s w h else P f w h := by
  rw [P, tr]; split <;> rfl
theorem P_det (ps : List Part) (next : Brk) (f : Bs → Bs) (h : Bs) : P (.ask ps next) (.det f) h = P next (.det f) (h ++ f (made ps h)) := by
  rw [P, tr]; rfl
theorem P_any (ps : List Part) (next : Brk) (l m : Nat) (told : List (Bs × Bs)) (h : Bs) : P (.ask ps next) (.any l m told) h =
    if (made ps h).length = l then
      match told.lookup (made ps h) with
      | some a => P next (.any l m told) (h ++ a)
      | none => sumR (allBs m) (fun v => P next (.any l m (told ++ [(made ps h, v)])) (h ++ v)) / pw m
    else P next (.any l m told) h := by
  rw [P, tr]
  split
  · split
    · rfl
    · rw [p_node, sumR_map, List.length_map, allBs_length]; rfl
  · rfl
theorem P_range (b : Brk) (w : Wd) (h : Bs) (q : b.wf) : 0 ≤ P b w h ∧ P b w h ≤ 1 := p_range _ (tr_ok b w h q)
/-! ### the best against a function -/
def pos (g : Rat) : Rat := if 0 < g then g else 0
theorem pos_ge (g : Rat) : g ≤ pos g := by unfold pos; split <;> grind
theorem pos_nonneg (g : Rat) : 0 ≤ pos g := by unfold pos; split <;> grind
def told1 (g : Rat) : Rat × Brk := if 0 < g then (g, .say [.lit true]) else (0, .say [.lit false])
theorem told1_fst (g : Rat) : (told1 g).1 = pos g := by unfold told1 pos; split <;> rfl
theorem told1_P (g : Rat) (w : Wd) (h : Bs) : P (told1 g).2 w h = if 0 < g then 1 else 0 := by
  unfold told1; split
  · rw [P_say]; rfl
  · rw [P_say]; rfl
open Classical in
noncomputable def looking : Nat → Nat → List Brk → Brk
  | _, 0, bs => bs.headD (.say [])
  | start, len + 1, bs =>
    let f := looking (start + 1) len (bs.take (bs.length / 2))
    let s := looking (start + 1) len (bs.drop (bs.length / 2))
    if f = s then f else .look start f s
theorem numOf_cons (b : Bool) (x : Bs) : numOf (b :: x) = (if b then 2 ^ x.length else 0) + numOf x := by
  induction x using snoc_ind with
  | h0 => cases b <;> rfl
  | h1 x c ih =>
    rw [← List.cons_append, numOf_append, numOf_append, ih, List.length_append, List.length_singleton, Nat.pow_succ]
    cases b <;> simp <;> omega
theorem tr_looking (w : Wd) (h : Bs) : ∀ (len start : Nat) (bs : List Brk) (pre x post : Bs), h = pre ++ x ++ post → pre.length = start → x.length = len → bs.length = 2 ^ len →
    ∃ b, bs[numOf x]? = some b ∧ tr (looking start len bs) w h = tr b w h
  | 0, start, bs, pre, x, post, e, e1, e2, e3 => by
    have : x = [] := List.length_eq_zero_iff.mp e2
    subst this
    match bs, e3 with
    | [b], _ => exact ⟨b, rfl, rfl⟩
  | len + 1, start, bs, pre, b :: x, post, e, e1, e2, e3 => by
    have hl : bs.length / 2 = 2 ^ len := by rw [e3, Nat.pow_succ]; omega
    have e2' : x.length = len := by simpa using e2
    have eh : h = (pre ++ [b]) ++ x ++ post := by rw [e]; simp
    have a1 : (bs.take (bs.length / 2)).length = 2 ^ len := by rw [List.length_take, hl, e3, Nat.pow_succ]; omega
    have a2 : (bs.drop (bs.length / 2)).length = 2 ^ len := by rw [List.length_drop, hl, e3, Nat.pow_succ]; omega
    obtain ⟨b1, g1, t1⟩ := tr_looking w h len (start + 1) (bs.take (bs.length / 2)) (pre ++ [b]) x post eh (by simp [e1]) e2' a1
    obtain ⟨b2, g2, t2⟩ := tr_looking w h len (start + 1) (bs.drop (bs.length / 2)) (pre ++ [b]) x post eh (by simp [e1]) e2' a2
    have hb : h.getD start false = b := by
      rw [e, ← e1, List.append_assoc, List.getD_eq_getElem?_getD, List.getElem?_append_right (Nat.le_refl _)]; simp
    have lx : numOf x < 2 ^ len := by rw [← e2']; exact numOf_lt x
    have both : tr (looking start (len + 1) bs) w h = if b then tr b2 w h else tr b1 w h := by
      rw [looking]
      split
      · rename_i q
        cases b
        · exact t1
        · rw [if_pos rfl, ← t2, ← q]
      · rw [tr, hb]
        cases b
        · simpa using t1
        · simpa using t2
    rw [numOf_cons, e2']
    cases b
    · refine ⟨b1, ?_, by rw [both]; rfl⟩
      rw [List.getElem?_take] at g1
      rw [hl, if_pos lx] at g1
      simpa using g1
    · refine ⟨b2, ?_, by rw [both]; rfl⟩
      rw [List.getElem?_drop, hl] at g2
      simpa using g2
def better (a : Option (Rat × Brk)) (c : Rat × Brk) : Option (Rat × Brk) :=
  match a with
  | none => some c
  | some b => if 0 < c.1 - b.1 then some c else some b
theorem foldl_better : ∀ (cs : List (Rat × Brk)) (a : Option (Rat × Brk)), (a = none → cs ≠ []) →
    ∃ r, cs.foldl better a = some r ∧ (r ∈ cs ∨ a = some r) ∧ (∀ c ∈ cs, c.1 ≤ r.1) ∧ ∀ b, a = some b → b.1 ≤ r.1
  | [], none, h => absurd rfl (h rfl)
  | [], some b, _ => ⟨b, rfl, .inr rfl, by simp, fun c e => by cases e; exact Rat.le_refl⟩
  | c :: cs, a, _ => by
    obtain ⟨d, hd, hdc, hda, hdm⟩ : ∃ d, better a c = some d ∧ c.1 ≤ d.1 ∧ (∀ b, a = some b → b.1 ≤ d.1) ∧ (d = c ∨ a = some d) := by
      unfold better
      cases a with
      | none => exact ⟨c, rfl, Rat.le_refl, by simp, .inl rfl⟩
      | some b =>
        simp only
        split
        · exact ⟨c, rfl, Rat.le_refl, fun b' e => by cases e; grind, .inl rfl⟩
        · exact ⟨b, rfl, by grind, fun b' e => by cases e; exact Rat.le_refl, .inr rfl⟩
    obtain ⟨r, h1, h2, h3, h4⟩ := foldl_better cs (some d) (by simp)
    refine ⟨r, by rw [List.foldl_cons, hd]; exact h1, ?_, ?_, ?_⟩
    · rcases h2 with h2 | h2
      · exact .inl (List.mem_cons_of_mem _ h2)
      · cases h2
        rcases hdm with rfl | q
        · exact .inl (List.mem_cons_self ..)
        · exact .inr q
    · intro c' hc'
      rcases List.mem_cons.mp hc' with rfl | q
      · exact Rat.le_trans hdc (h4 d rfl)
      · exact h3 c' q
    · intro b e
      exact Rat.le_trans (hda b e) (h4 d rfl)
section
variable (F : Nat → Bs → Bs) (n l m : Nat)
def newsOf (asked : List Bs) : List Bs := (allBs l).filter fun s => decide (s ∉ asked)
def gainAt (keys : List Nat) (asked : List Bs) : Rat := (keys.length : Rat) / pw n - 1 / pw (m * asked.length)
noncomputable def bf : Nat → List Nat → List Bs → Rat × Brk
  | 0, keys, asked => told1 (gainAt n m keys asked)
  | left + 1, keys, asked =>
    match ((newsOf l asked).map fun s =>
      let sub := (allBs m).map fun v => bf left (keys.filter fun k => decide (F k s = v)) (asked ++ [s])
      (sumR sub (·.1), Brk.ask (s.map .lit) (looking (m * asked.length) m (sub.map (·.2))))).foldl better none with
    | none => told1 (gainAt n m keys asked)
    | some r => r
noncomputable def subOf (left : Nat) (keys : List Nat) (asked : List Bs) (s : Bs) : List (Rat × Brk) := (allBs m).map fun v => bf F n l m left (keys.filter fun k => decide (F k s = v)) (asked ++ [s])
noncomputable def candOf (left : Nat) (keys : List Nat) (asked : List Bs) (s : Bs) : Rat × Brk :=
  (sumR (subOf F n l m left keys asked s) (·.1), Brk.ask (s.map .lit) (looking (m * asked.length) m ((subOf F n l m left keys asked s).map (·.2))))
theorem bf_succ (left : Nat) (keys : List Nat) (asked : List Bs) : bf F n l m (left + 1) keys asked =
    match ((newsOf l asked).map (candOf F n l m left keys asked)).foldl better none with
    | none => told1 (gainAt n m keys asked)
    | some r => r := by rw [bf]; rfl
theorem bf_nil {left : Nat} {keys : List Nat} {asked : List Bs} (h : newsOf l asked = []) : bf F n l m left keys asked = told1 (gainAt n m keys asked) := by
  cases left with
  | zero => rw [bf]
  | succ left => rw [bf_succ, h]; rfl
theorem bf_some {left : Nat} {keys : List Nat} {asked : List Bs} (h : newsOf l asked ≠ []) : ∃ s ∈ newsOf l asked, bf F n l m (left + 1) keys asked = candOf F n l m left keys asked s ∧
    ∀ s' ∈ newsOf l asked, (candOf F n l m left keys asked s').1 ≤ (bf F n l m (left + 1) keys asked).1 := by
  obtain ⟨r, h1, h2, h3, _⟩ := foldl_better ((newsOf l asked).map (candOf F n l m left keys asked)) none (fun _ e => h (by simpa using e))
  rw [bf_succ, h1]
  rcases h2 with h2 | h2
  · obtain ⟨s, hs, rfl⟩ := List.mem_map.mp h2
    exact ⟨s, hs, rfl, fun s' hs' => h3 _ (List.mem_map.mpr ⟨s', hs', rfl⟩)⟩
  · cases h2
variable {F n l m}
theorem news_mem {asked : List Bs} {s : Bs} : s ∈ newsOf l asked ↔ s.length = l ∧ s ∉ asked := by
  unfold newsOf; rw [List.mem_filter, mem_allBs]; simp
theorem cand_fst (left : Nat) (keys : List Nat) (asked : List Bs) (s : Bs) : (candOf F n l m left keys asked s).1 =
    sumR (allBs m) (fun v => (bf F n l m left (keys.filter fun k => decide (F k s = v)) (asked ++ [s])).1) := by
  unfold candOf subOf; rw [sumR_map]
theorem len_sumR {α : Type} (l : List α) : ((l.length : Nat) : Rat) = sumR l (fun _ => 1) := by rw [sumR_const]; grind
theorem gain_split (hF : ∀ k s, s.length = l → (F k s).length = m) (keys : List Nat) (asked : List Bs) {s : Bs} (hs : s.length = l) :
    gainAt n m keys asked = sumR (allBs m) (fun v => gainAt n m (keys.filter fun k => decide (F k s = v)) (asked ++ [s])) := by
  unfold gainAt
  have e : pw (m * (asked.length + 1)) = pw (m * asked.length) * pw m := by rw [Nat.mul_add, Nat.mul_one, pw_add]
  simp only [List.length_append, List.length_singleton, e]
  rw [sumR_sub, sumR_div, sumR_const, allBs_length]
  have e2 : sumR (allBs m) (fun v => (((keys.filter fun k => decide (F k s = v)).length : Nat) : Rat)) = ((keys.length : Nat) : Rat) := by
    rw [len_sumR keys, sumR_split keys m (fun k => F k s) (fun k _ => hF k s hs)]
    exact sumR_congr fun v _ => len_sumR _
  rw [e2]
  have h1 := pw_ne m
  have h2 := pw_ne (m * asked.length)
  show _ = _ - pw m * (1 / (pw (m * asked.length) * pw m))
  have : pw m * (1 / (pw (m * asked.length) * pw m)) = 1 / pw (m * asked.length) := by grind
  rw [this]
theorem bf_ge (hF : ∀ k s, s.length = l → (F k s).length = m) : ∀ (left : Nat) (keys : List Nat) (asked : List Bs), pos (gainAt n m keys asked) ≤ (bf F n l m left keys asked).1
  | 0, keys, asked => by rw [bf, told1_fst]; exact Rat.le_refl
  | left + 1, keys, asked => by
    by_cases h : newsOf l asked = []
    · rw [bf_nil F n l m h, told1_fst]; exact Rat.le_refl
    · obtain ⟨s, hs, e, _⟩ := bf_some F n l m (left := left) (keys := keys) h
      rw [e, cand_fst]
      have ih : ∀ v ∈ allBs m, pos (gainAt n m (keys.filter fun k => decide (F k s = v)) (asked ++ [s])) ≤ (bf F n l m left (keys.filter fun k => decide (F k s = v)) (asked ++ [s])).1 :=
        fun v _ => bf_ge hF left _ _
      refine Rat.le_trans ?_ (sumR_le ih)
      have a1 := gain_split (n := n) hF keys asked (news_mem.mp hs).1
      have a2 : sumR (allBs m) (fun v => gainAt n m (keys.filter fun k => decide (F k s = v)) (asked ++ [s])) ≤ sumR (allBs m) (fun v => pos (gainAt n m (keys.filter fun k => decide (F k s = v)) (asked ++ [s]))) :=
        sumR_le fun v _ => pos_ge _
      have a3 : 0 ≤ sumR (allBs m) (fun v => pos (gainAt n m (keys.filter fun k => decide (F k s = v)) (asked ++ [s]))) := sumR_nonneg fun v _ => pos_nonneg _
      unfold pos at *
      split
      · rw [a1]; exact a2
      · exact a3
theorem bf_nonneg (hF : ∀ k s, s.length = l → (F k s).length = m) (left : Nat) (keys : List Nat) (asked : List Bs) : 0 ≤ (bf F n l m left keys asked).1 :=
  Rat.le_trans (pos_nonneg _) (bf_ge hF left keys asked)
/-- the world of a key -/
def ans (F : Nat → Bs → Bs) (l k : Nat) (s : Bs) : Bs := if s.length = l then F k s else []
/-- what a breaker gains from a view on -/
def adv (F : Nat → Bs → Bs) (n l m : Nat) (b : Brk) (keys : List Nat) (told : List (Bs × Bs)) (h : Bs) : Rat :=
  sumR keys (fun k => P b (.det (ans F l k)) h) / pw n - P b (.any l m told) h / pw (m * told.length)
structure View (F : Nat → Bs → Bs) (l m : Nat) (keys : List Nat) (told : List (Bs × Bs)) : Prop where
  fits : ∀ k ∈ keys, ∀ p ∈ told, F k p.1 = p.2
  len : ∀ p ∈ told, p.1.length = l ∧ p.2.length = m
theorem lookup_mem {s a : Bs} : ∀ {told : List (Bs × Bs)}, told.lookup s = some a → (s, a) ∈ told
  | [], h => by simp at h
  | (x, y) :: r, h => by
    rw [List.lookup_cons] at h
    by_cases e : s = x
    · subst e; simp at h; subst h; exact List.mem_cons_self ..
    · have : (s == x) = false := by simpa using e
      rw [this] at h
      exact List.mem_cons_of_mem _ (lookup_mem h)
theorem lookup_none {s : Bs} : ∀ {told : List (Bs × Bs)}, told.lookup s = none → s ∉ told.map (·.1)
  | [], _ => by simp
  | (x, y) :: r, h => by
    rw [List.lookup_cons] at h
    by_cases e : s = x
    · subst e; simp at h
    · have : (s == x) = false := by simpa using e
      rw [this] at h
      simp only [List.map_cons, List.mem_cons, not_or]
      exact ⟨e, lookup_none h⟩
theorem lookup_none' {s : Bs} : ∀ {told : List (Bs × Bs)}, s ∉ told.map (·.1) → told.lookup s = none
  | [], _ => rfl
  | (x, y) :: r, h => by
    simp only [List.map_cons, List.mem_cons, not_or] at h
    have : (s == x) = false := by simpa using h.1
    rw [List.lookup_cons, this]
    exact lookup_none' h.2
theorem View.more {keys : List Nat} {told : List (Bs × Bs)} (V : View F l m keys told) (s v : Bs) (hs : s.length = l) (hv : v.length = m) : View F l m (keys.filter fun k => decide (F k s = v)) (told ++ [(s, v)]) where
  fits := fun k hk p hp => by
    obtain ⟨hk1, hk2⟩ := List.mem_filter.mp hk
    rcases List.mem_append.mp hp with hp | hp
    · exact V.fits k hk1 p hp
    · have : p = (s, v) := by simpa using hp
      subst this; simpa using hk2
  len := fun p hp => by
    rcases List.mem_append.mp hp with hp | hp
    · exact V.len p hp
    · have : p = (s, v) := by simpa using hp
      subst this; exact ⟨hs, hv⟩
theorem adv_split (hF : ∀ k s, s.length = l → (F k s).length = m) {keys : List Nat} {told : List (Bs × Bs)} {h : Bs} {ps : List Part} {next : Brk}
    (hs : (made ps h).length = l) (hn : told.lookup (made ps h) = none) :
    adv F n l m (.ask ps next) keys told h = sumR (allBs m) (fun v => adv F n l m next (keys.filter fun k => decide (F k (made ps h) = v)) (told ++ [(made ps h, v)]) (h ++ v)) := by
  unfold adv
  simp only [List.length_append, List.length_singleton]
  rw [P_any, if_pos hs, hn, sumR_sub, sumR_div, sumR_div]
  simp only [P_det]
  rw [sumR_split keys m (fun k => F k (made ps h)) (fun k _ => hF k _ hs)]
  have e1 : sumR (allBs m) (fun v => sumR (keys.filter fun k => decide (F k (made ps h) = v)) (fun k => P next (.det (ans F l k)) (h ++ ans F l k (made ps h)))) =
      sumR (allBs m) (fun v => sumR (keys.filter fun k => decide (F k (made ps h) = v)) (fun k => P next (.det (ans F l k)) (h ++ v))) := by
    refine sumR_congr fun v _ => sumR_congr fun k hk => ?_
    have : F k (made ps h) = v := by simpa using (List.mem_filter.mp hk).2
    rw [ans, if_pos hs, this]
  rw [e1]
  have e : pw (m * (told.length + 1)) = pw m * pw (m * told.length) := by rw [Nat.mul_add, Nat.mul_one, pw_add]; grind
  rw [e, ← rat_div_mul, Rat.mul_comm]
mutual
theorem upper (hF : ∀ k s, s.length = l → (F k s).length = m) : ∀ (b : Brk), b.wf → ∀ (keys : List Nat) (told : List (Bs × Bs)) (h : Bs) (left : Nat), b.asks ≤ left → View F l m keys told →
    adv F n l m b keys told h ≤ (bf F n l m left keys (told.map (·.1))).1
  | .say ps, _, keys, told, h, left, _, _ => by
    refine Rat.le_trans ?_ (bf_ge hF left keys _)
    unfold adv gainAt
    simp only [P_say, List.length_map]
    unfold b2r
    split
    · rw [sumR_const]
      refine Rat.le_trans ?_ (pos_ge _)
      grind
    · rw [sumR_const]
      refine Rat.le_trans ?_ (pos_nonneg _)
      grind
  | .toss bs, wf, keys, told, h, left, ha, V => by
    have hl : 0 < bs.length := List.length_pos_iff.mpr wf.1
    have hl' : (0 : Rat) < (bs.length : Rat) := by exact_mod_cast hl
    have q := upperL hF bs wf.2 keys told h left ha V
    have e : adv F n l m (.toss bs) keys told h = sumR bs (fun b => adv F n l m b keys told h) / bs.length := by
      unfold adv
      simp only [P_toss]
      rw [sumR_div, sumR_swap, sumR_sub, sumR_div, sumR_div]
      grind
    rw [e]
    exact rat_div_le hl' (by rw [Rat.mul_comm]; exact q)
  | .look i f s, wf, keys, told, h, left, ha, V => by
    rw [Brk.asks] at ha
    unfold adv
    simp only [P_look]
    split
    · exact upper hF s wf.2 keys told h left (by omega) V
    · exact upper hF f wf.1 keys told h left (by omega) V
  | .ask ps next, wf, keys, told, h, left, ha, V => by
    rw [Brk.asks] at ha
    have wf' : next.wf := wf
    by_cases hs : (made ps h).length = l
    · cases hn : told.lookup (made ps h) with
      | some a =>
        have hm := lookup_mem hn
        have e : adv F n l m (.ask ps next) keys told h = adv F n l m next keys told (h ++ a) := by
          unfold adv
          rw [P_any, if_pos hs, hn]
          simp only [P_det]
          congr 2
          refine sumR_congr fun k hk => ?_
          rw [ans, if_pos hs, V.fits k hk _ hm]
        rw [e]
        exact upper hF next wf' keys told _ left (by omega) V
      | none =>
        have hnew : made ps h ∈ newsOf l (told.map (·.1)) := news_mem.mpr ⟨hs, lookup_none hn⟩
        match left, ha with
        | left + 1, ha =>
          obtain ⟨_, _, _, hmax⟩ := bf_some F n l m (left := left) (keys := keys) (List.ne_nil_of_mem hnew)
          refine Rat.le_trans ?_ (hmax _ hnew)
          rw [adv_split hF hs hn, cand_fst]
          refine sumR_le fun v hv => ?_
          have := upper hF next wf' _ _ (h ++ v) left (by omega) (V.more (made ps h) v hs (mem_allBs.mp hv))
          rw [List.map_append] at this
          exact this
    · have e : adv F n l m (.ask ps next) keys told h = adv F n l m next keys told h := by
        unfold adv
        rw [P_any, if_neg hs]
        simp only [P_det, ans, if_neg hs, List.append_nil]
      rw [e]
      exact upper hF next wf' keys told _ left (by omega) V
theorem upperL (hF : ∀ k s, s.length = l → (F k s).length = m) : ∀ (bs : List Brk), wfL bs → ∀ (keys : List Nat) (told : List (Bs × Bs)) (h : Bs) (left : Nat), asksL bs ≤ left → View F l m keys told →
    sumR bs (fun b => adv F n l m b keys told h) ≤ bs.length * (bf F n l m left keys (told.map (·.1))).1
  | [], _, keys, told, h, left, _, _ => by rw [sumR_nil]; simp
  | b :: bs, wf, keys, told, h, left, ha, V => by
    rw [asksL] at ha
    have a1 := upper hF b wf.1 keys told h left (by omega) V
    have a2 := upperL hF bs wf.2 keys told h left (by omega) V
    rw [sumR_cons, List.length_cons]
    push_cast
    grind
end
end
end BB

set_option autoImplicit false
set_option linter.all false
namespace BB
section
variable {F : Nat → Bs → Bs} {n l m : Nat}
theorem made_lits (s h : Bs) : made (s.map .lit) h = s := by
  unfold made; rw [List.map_map]
  induction s with
  | nil => rfl
  | cons b s ih => rw [List.map_cons, ih]; rfl
theorem adv_told1 {keys : List Nat} {told : List (Bs × Bs)} {h : Bs} : adv F n l m (told1 (gainAt n m keys (told.map (·.1)))).2 keys told h = (told1 (gainAt n m keys (told.map (·.1)))).1 := by
  rw [told1_fst]
  unfold adv
  simp only [told1_P]
  rw [sumR_const]
  unfold pos
  split
  · unfold gainAt; rw [List.length_map]; grind
  · grind
theorem adv_congr {b c : Brk} {keys : List Nat} {told : List (Bs × Bs)} {h : Bs} (e : ∀ w, tr b w h = tr c w h) : adv F n l m b keys told h = adv F n l m c keys told h := by
  unfold adv P; simp only [e]
theorem allBs_numOf {v : Bs} : (allBs v.length)[numOf v]? = some v := by
  rw [allBs_get (numOf_lt v), bitsOf_numOf]
theorem attain (hF : ∀ k s, s.length = l → (F k s).length = m) : ∀ (left : Nat) (keys : List Nat) (told : List (Bs × Bs)) (h : Bs), View F l m keys told → h.length = m * told.length →
    adv F n l m (bf F n l m left keys (told.map (·.1))).2 keys told h = (bf F n l m left keys (told.map (·.1))).1
  | 0, keys, told, h, V, hh => by rw [bf]; exact adv_told1
  | left + 1, keys, told, h, V, hh => by
    by_cases hn : newsOf l (told.map (·.1)) = []
    · rw [bf_nil F n l m hn]; exact adv_told1
    · obtain ⟨s, hs, e, _⟩ := bf_some F n l m (left := left) (keys := keys) hn
      obtain ⟨hs1, hs2⟩ := news_mem.mp hs
      rw [e, cand_fst]
      unfold candOf
      simp only
      have hm : made (s.map Part.lit) h = s := made_lits s h
      rw [adv_split hF (by rw [hm]; exact hs1) (by rw [hm]; exact lookup_none' hs2)]
      rw [hm]
      refine sumR_congr fun v hv => ?_
      have hv' := mem_allBs.mp hv
      have V' := V.more s v hs1 hv'
      have ih := attain hF left _ _ (h ++ v) V' (by rw [List.length_append, List.length_append, hh, hv']; simp; grind)
      rw [List.map_append] at ih
      rw [← show (bf F n l m left (keys.filter fun k => decide (F k s = v)) (told.map (·.1) ++ [s])).1 = _ from rfl]
      rw [show (bf F n l m left (keys.filter fun k => decide (F k s = v)) (told.map (·.1) ++ [s])).1 = _ from ih.symm]
      refine adv_congr fun w => ?_
      obtain ⟨b, hb, ht⟩ := tr_looking w (h ++ v) m (m * (told.map (·.1)).length) ((subOf F n l m left keys (told.map (·.1)) s).map (·.2)) h v [] (by simp) (by rw [hh, List.length_map]) hv' (by unfold subOf; simp [allBs_length])
      rw [ht]
      have : ((subOf F n l m left keys (told.map (·.1)) s).map (·.2))[numOf v]? = some (bf F n l m left (keys.filter fun k => decide (F k s = v)) (told.map (·.1) ++ [s])).2 := by
        unfold subOf
        rw [List.getElem?_map, List.getElem?_map, ← hv', allBs_numOf]; rfl
      rw [this] at hb
      cases hb; rfl
end
/-! ### what best's breakers are like -/
theorem looking_ind {Q : Brk → Prop} {top : Nat} (h0 : Q (.say [])) (h1 : ∀ i f s, i < top → Q f → Q s → Q (.look i f s)) : ∀ (len start : Nat) (bs : List Brk), start + len ≤ top → (∀ b ∈ bs, Q b) → Q (looking start len bs)
  | 0, start, [], _, _ => h0
  | 0, start, b :: bs, _, h => h b (List.mem_cons_self ..)
  | len + 1, start, bs, ht, h => by
    have a := looking_ind h0 h1 len (start + 1) (bs.take (bs.length / 2)) (by omega) fun b hb => h b (List.mem_of_mem_take hb)
    have c := looking_ind h0 h1 len (start + 1) (bs.drop (bs.length / 2)) (by omega) fun b hb => h b (List.mem_of_mem_drop hb)
    rw [looking]
    split
    · exact a
    · exact h1 _ _ _ (by omega) a c
def sumN {α : Type} (l : List α) (f : α → Nat) : Nat := (l.map f).sum
theorem sumN_append {α : Type} (l k : List α) (f : α → Nat) : sumN (l ++ k) f = sumN l f + sumN k f := by
  unfold sumN; rw [List.map_append, List.sum_append]
theorem sumN_cons {α : Type} (a : α) (l : List α) (f : α → Nat) : sumN (a :: l) f = f a + sumN l f := by
  unfold sumN; rw [List.map_cons, List.sum_cons]
theorem sumN_le {α : Type} (l : List α) (f : α → Nat) (c : Nat) (h : ∀ a ∈ l, f a ≤ c) : sumN l f ≤ l.length * c := by
  induction l with
  | nil => simp [sumN]
  | cons a l ih =>
    rw [sumN_cons, List.length_cons, Nat.add_mul]
    have := h a (List.mem_cons_self ..)
    have := ih fun b hb => h b (List.mem_cons_of_mem _ hb)
    omega
theorem looking_sum {g : Brk → Nat} {c : Nat} (h1 : ∀ i f s, g (.look i f s) ≤ c + g f + g s) : ∀ (len start : Nat) (bs : List Brk), bs.length = 2 ^ len → g (looking start len bs) + c ≤ sumN bs g + c * 2 ^ len
  | 0, start, [b], _ => by simp [looking, sumN]
  | len + 1, start, bs, e => by
    have hl : bs.length / 2 = 2 ^ len := by rw [e, Nat.pow_succ]; omega
    have a := looking_sum h1 len (start + 1) (bs.take (bs.length / 2)) (by rw [List.length_take, hl, e, Nat.pow_succ]; omega)
    have d := looking_sum h1 len (start + 1) (bs.drop (bs.length / 2)) (by rw [List.length_drop, hl, e, Nat.pow_succ]; omega)
    have s : sumN bs g = sumN (bs.take (bs.length / 2)) g + sumN (bs.drop (bs.length / 2)) g := by rw [← sumN_append, List.take_append_drop]
    rw [looking]
    have e2 : c * 2 ^ (len + 1) = c * 2 ^ len + c * 2 ^ len := by rw [Nat.pow_succ, ← Nat.mul_assoc]; omega
    rw [e2]
    split
    · have : 0 < 2 ^ len := Nat.two_pow_pos len
      have : c ≤ c * 2 ^ len := Nat.le_mul_of_pos_right _ this
      omega
    · have := h1 start (looking (start + 1) len (bs.take (bs.length / 2))) (looking (start + 1) len (bs.drop (bs.length / 2)))
      omega
theorem looking_max {g : Brk → Nat} {c : Nat} (h0 : ∀ ps, g (.say ps) ≤ c) (h1 : ∀ i f s, g (.look i f s) ≤ 1 + max (g f) (g s)) : ∀ (len start : Nat) (bs : List Brk), (∀ b ∈ bs, g b ≤ c) → g (looking start len bs) ≤ c + len
  | 0, start, [], _ => h0 []
  | 0, start, b :: bs, h => h b (List.mem_cons_self ..)
  | len + 1, start, bs, h => by
    have a := looking_max h0 h1 len (start + 1) (bs.take (bs.length / 2)) fun b hb => h b (List.mem_of_mem_take hb)
    have c' := looking_max h0 h1 len (start + 1) (bs.drop (bs.length / 2)) fun b hb => h b (List.mem_of_mem_drop hb)
    rw [looking]
    split
    · omega
    · have := h1 start (looking (start + 1) len (bs.take (bs.length / 2))) (looking (start + 1) len (bs.drop (bs.length / 2)))
      omega
mutual
/-- the number of breakers, itself counted -/
def Brk.nodes : Brk → Nat
  | .say _ => 1
  | .toss bs => 1 + nodesL bs
  | .look _ f s => 1 + f.nodes + s.nodes
  | .ask _ next => 1 + next.nodes
def nodesL : List Brk → Nat
  | [] => 0
  | b :: bs => b.nodes + nodesL bs
end
mutual
def Brk.depth : Brk → Nat
  | .say _ => 1
  | .toss bs => 1 + depthL bs
  | .look _ f s => 1 + max f.depth s.depth
  | .ask _ next => 1 + next.depth
def depthL : List Brk → Nat
  | [] => 0
  | b :: bs => max b.depth (depthL bs)
end
def Part.small (t : Nat) : Part → Prop
  | .lit _ => True
  | .bit i => i ≤ t
mutual
/-- numbers of bits are at most t; tosses have one to three ways -/
def Brk.good (t : Nat) : Brk → Prop
  | .say ps => ps.length ≤ t ∧ ∀ p ∈ ps, p.small t
  | .toss bs => bs ≠ [] ∧ bs.length ≤ 3 ∧ goodL t bs
  | .look i f s => i ≤ t ∧ f.good t ∧ s.good t
  | .ask ps next => (ps.length ≤ t ∧ ∀ p ∈ ps, p.small t) ∧ next.good t
def goodL (t : Nat) : List Brk → Prop
  | [] => True
  | b :: bs => b.good t ∧ goodL t bs
end
mutual
theorem good_wf {t : Nat} : ∀ b : Brk, b.good t → b.wf
  | .say _, _ => trivial
  | .toss bs, h => ⟨h.1, good_wfL bs h.2.2⟩
  | .look _ f s, h => ⟨good_wf f h.2.1, good_wf s h.2.2⟩
  | .ask _ next, h => good_wf next h.2
theorem good_wfL {t : Nat} : ∀ bs : List Brk, goodL t bs → wfL bs
  | [], _ => trivial
  | b :: bs, h => ⟨good_wf b h.1, good_wfL bs h.2⟩
end
theorem goodL_iff {t : Nat} : ∀ bs : List Brk, goodL t bs ↔ ∀ b ∈ bs, b.good t
  | [] => by simp [goodL]
  | b :: bs => by rw [goodL, goodL_iff bs]; simp
theorem nodesL_sum : ∀ bs : List Brk, nodesL bs = sumN bs Brk.nodes
  | [] => rfl
  | b :: bs => by rw [nodesL, nodesL_sum bs, sumN_cons]
mutual
/-- a bound for the ways: M for each ask -/
def Brk.cnt (M : Nat) : Brk → Nat
  | .say _ => 1
  | .toss bs => cntL M bs
  | .look _ f s => f.cnt M + s.cnt M
  | .ask _ next => M * next.cnt M
def cntL (M : Nat) : List Brk → Nat
  | [] => 0
  | b :: bs => b.cnt M + cntL M bs
end
mutual
theorem leaves_cnt : ∀ (t : Tr) (i n : Nat), ((leaves t).map (fun r => ((i, n) :: r.1, r.2))).length = (leaves t).length
  | t, i, n => List.length_map _
end
theorem leavesL_len : ∀ (ts : List Tr) (i n : Nat), (leavesL ts i n).length = sumN ts fun t => (leaves t).length
  | [], _, _ => rfl
  | t :: ts, i, n => by rw [leavesL, List.length_append, List.length_map, leavesL_len ts, sumN_cons]
theorem leaves_node (ts : List Tr) : (leaves (.node ts)).length = sumN ts fun t => (leaves t).length := by rw [leaves, leavesL_len]
def Wd.le (M : Nat) : Wd → Prop
  | .det _ => True
  | .any _ m _ => 2 ^ m ≤ M
mutual
theorem cnt_pos {M : Nat} (hM : 0 < M) : ∀ b : Brk, b.wf → 0 < b.cnt M
  | .say _, _ => by rw [Brk.cnt]; exact Nat.one_pos
  | .toss [], h => absurd rfl h.1
  | .toss (b :: bs), h => by rw [Brk.cnt, cntL]; have := cnt_pos hM b h.2.1; omega
  | .look _ f s, h => by rw [Brk.cnt]; have := cnt_pos hM f h.1; omega
  | .ask _ next, h => by rw [Brk.cnt]; exact Nat.mul_pos hM (cnt_pos hM next h)
end
mutual
theorem leaves_le {M : Nat} (hM : 0 < M) : ∀ (b : Brk) (w : Wd) (h : Bs), w.le M → (leaves (tr b w h)).length ≤ b.cnt M
  | .say ps, w, h, _ => by rw [tr, leaves, Brk.cnt]; simp
  | .toss bs, w, h, q => by rw [tr, leaves_node, Brk.cnt]; exact leavesL_le hM bs w h q
  | .look i f s, w, h, q => by
    rw [tr, Brk.cnt]
    have := leaves_le hM f w h q
    have := leaves_le hM s w h q
    split <;> omega
  | .ask ps next, .det f, h, q => by
    rw [tr, Brk.cnt]
    have := leaves_le hM next (.det f) (h ++ f (made ps h)) q
    exact Nat.le_trans this (Nat.le_mul_of_pos_left _ hM)
  | .ask ps next, .any l m told, h, q => by
    rw [tr, Brk.cnt]
    have one : next.cnt M ≤ M * next.cnt M := Nat.le_mul_of_pos_left _ hM
    split
    · split
      · exact Nat.le_trans (leaves_le hM next _ _ q) one
      · rw [leaves_node]
        refine Nat.le_trans (sumN_le _ _ (next.cnt M) fun t ht => ?_) ?_
        · obtain ⟨v, _, rfl⟩ := List.mem_map.mp ht
          exact leaves_le hM next _ _ q
        · rw [List.length_map, allBs_length]
          exact Nat.mul_le_mul_right _ q
    · exact Nat.le_trans (leaves_le hM next _ _ q) one
theorem leavesL_le {M : Nat} (hM : 0 < M) : ∀ (bs : List Brk) (w : Wd) (h : Bs), w.le M → sumN (trL bs w h) (fun t => (leaves t).length) ≤ cntL M bs
  | [], _, _, _ => by rw [trL, cntL]; exact Nat.le_refl _
  | b :: bs, w, h, q => by
    rw [trL, cntL, sumN_cons]
    exact Nat.add_le_add (leaves_le hM b w h q) (leavesL_le hM bs w h q)
end
theorem pow3_pos (d : Nat) : 0 < 3 ^ d := Nat.pow_pos (by decide)
mutual
theorem cnt_le {M t : Nat} (hM : 0 < M) : ∀ b : Brk, b.good t → b.cnt M ≤ 3 ^ (b.depth - 1) * M ^ b.asks
  | .say _, _ => by rw [Brk.cnt, Brk.depth, Brk.asks]; simp
  | .toss bs, h => by
    rw [Brk.cnt, Brk.depth, Brk.asks]
    have := cntL_le hM bs h.2.2
    have hd : 1 ≤ depthL bs := by
      match bs, h.1 with
      | b :: bs, _ => rw [depthL]; have := depth_pos b; omega
    refine Nat.le_trans this ?_
    have e : 3 ^ (1 + depthL bs - 1) = 3 * 3 ^ (depthL bs - 1) := by
      rw [← Nat.pow_succ']; congr 1; omega
    rw [e, Nat.mul_assoc]
    exact Nat.mul_le_mul_right _ h.2.1
  | .look _ f s, h => by
    rw [Brk.cnt, Brk.depth, Brk.asks]
    have a := cnt_le hM f h.2.1
    have b := cnt_le hM s h.2.2
    have fd := depth_pos f
    have sd := depth_pos s
    have e : 3 ^ (1 + max f.depth s.depth - 1) = 3 * 3 ^ (max f.depth s.depth - 1) := by
      rw [← Nat.pow_succ']; congr 1; omega
    have a' : 3 ^ (f.depth - 1) * M ^ f.asks ≤ 3 ^ (max f.depth s.depth - 1) * M ^ (max f.asks s.asks) :=
      Nat.mul_le_mul (Nat.pow_le_pow_right (by decide) (by omega)) (Nat.pow_le_pow_right hM (by omega))
    have b' : 3 ^ (s.depth - 1) * M ^ s.asks ≤ 3 ^ (max f.depth s.depth - 1) * M ^ (max f.asks s.asks) :=
      Nat.mul_le_mul (Nat.pow_le_pow_right (by decide) (by omega)) (Nat.pow_le_pow_right hM (by omega))
    rw [e, Nat.mul_assoc]
    omega
  | .ask _ next, h => by
    rw [Brk.cnt, Brk.depth, Brk.asks, Nat.pow_succ]
    have a := cnt_le hM next h.2
    have := Nat.mul_le_mul_left M a
    refine Nat.le_trans this ?_
    have : 3 ^ (next.depth - 1) ≤ 3 ^ (1 + next.depth - 1) := Nat.pow_le_pow_right (by decide) (by omega)
    have := Nat.mul_le_mul_right (M ^ next.asks * M) this
    grind
theorem cntL_le {M t : Nat} (hM : 0 < M) : ∀ bs : List Brk, goodL t bs → cntL M bs ≤ bs.length * (3 ^ (depthL bs - 1) * M ^ asksL bs)
  | [], _ => by rw [cntL]; exact Nat.zero_le _
  | b :: bs, h => by
    rw [cntL, depthL, asksL, List.length_cons]
    have a := cnt_le hM b h.1
    have c := cntL_le hM bs h.2
    have a' : 3 ^ (b.depth - 1) * M ^ b.asks ≤ 3 ^ (max b.depth (depthL bs) - 1) * M ^ (max b.asks (asksL bs)) :=
      Nat.mul_le_mul (Nat.pow_le_pow_right (by decide) (by omega)) (Nat.pow_le_pow_right hM (by omega))
    have b' : 3 ^ (depthL bs - 1) * M ^ asksL bs ≤ 3 ^ (max b.depth (depthL bs) - 1) * M ^ (max b.asks (asksL bs)) :=
      Nat.mul_le_mul (Nat.pow_le_pow_right (by decide) (by omega)) (Nat.pow_le_pow_right hM (by omega))
    have := Nat.mul_le_mul_left bs.length b'
    rw [Nat.add_mul, Nat.one_mul]
    omega
theorem depth_pos : ∀ b : Brk, 1 ≤ b.depth
  | .say _ => by rw [Brk.depth]; omega
  | .toss _ => by rw [Brk.depth]; omega
  | .look _ _ _ => by rw [Brk.depth]; omega
  | .ask _ _ => by rw [Brk.depth]; omega
end
mutual
theorem nodes_le {t : Nat} : ∀ b : Brk, b.good t → 2 * b.nodes + 1 ≤ 3 ^ b.depth
  | .say _, _ => by rw [Brk.nodes, Brk.depth]; decide
  | .toss bs, h => by
    rw [Brk.nodes, Brk.depth, Nat.pow_add]
    have := nodesL_le bs h.2.2
    have h3 := h.2.1
    have hl : 0 < bs.length := List.length_pos_iff.mpr h.1
    have hp := pow3_pos (depthL bs)
    have h3' : bs.length = 1 ∨ bs.length = 2 ∨ bs.length = 3 := by omega
    rcases h3' with e | e | e <;> rw [e] at this <;> omega
  | .look _ f s, h => by
    rw [Brk.nodes, Brk.depth, Nat.pow_add]
    have a := nodes_le f h.2.1
    have b := nodes_le s h.2.2
    have a' : 3 ^ f.depth ≤ 3 ^ max f.depth s.depth := Nat.pow_le_pow_right (by decide) (by omega)
    have b' : 3 ^ s.depth ≤ 3 ^ max f.depth s.depth := Nat.pow_le_pow_right (by decide) (by omega)
    have := pow3_pos (max f.depth s.depth)
    omega
  | .ask _ next, h => by
    rw [Brk.nodes, Brk.depth, Nat.pow_add]
    have a := nodes_le next h.2
    omega
theorem nodesL_le {t : Nat} : ∀ bs : List Brk, goodL t bs → 2 * nodesL bs + bs.length ≤ bs.length * 3 ^ depthL bs
  | [], _ => by rw [nodesL]; simp
  | b :: bs, h => by
    rw [nodesL, depthL, List.length_cons, Nat.add_mul, Nat.one_mul]
    have a := nodes_le b h.1
    have c := nodesL_le bs h.2
    have a' : 3 ^ b.depth ≤ 3 ^ max b.depth (depthL bs) := Nat.pow_le_pow_right (by decide) (by omega)
    have b' : 3 ^ depthL bs ≤ 3 ^ max b.depth (depthL bs) := Nat.pow_le_pow_right (by decide) (by omega)
    have := Nat.mul_le_mul_left bs.length b'
    omega
end
end BB

set_option autoImplicit false
set_option linter.all false
namespace BB
/-! ### products of draws divide a number -/
theorem mem_leavesL : ∀ (ts : List Tr) (i n : Nat) (r : Path × Bs), r ∈ leavesL ts i n → ∃ t ∈ ts, ∃ j, ∃ r' ∈ leaves t, r = ((j, n) :: r'.1, r'.2)
  | [], _, _, _, h => by simp [leavesL] at h
  | t :: ts, i, n, r, h => by
    rw [leavesL] at h
    rcases List.mem_append.mp h with h | h
    · obtain ⟨r', h1, rfl⟩ := List.mem_map.mp h
      exact ⟨t, List.mem_cons_self .., i, r', h1, rfl⟩
    · obtain ⟨t', h1, j, r', h2, e⟩ := mem_leavesL ts (i + 1) n r h
      exact ⟨t', List.mem_cons_of_mem _ h1, j, r', h2, e⟩
def dvT (D : Nat) (t : Tr) : Prop := ∀ r ∈ leaves t, under r.1 ∣ D
theorem dvT_node {D D' : Nat} {ts : List Tr} (hD : ts.length * D' ∣ D) (h : ∀ t ∈ ts, dvT D' t) : dvT D (.node ts) := fun r hr => by
  rw [leaves] at hr
  obtain ⟨t, ht, j, r', hr', rfl⟩ := mem_leavesL ts 0 ts.length r hr
  rw [under_cons]
  exact Nat.dvd_trans (Nat.mul_dvd_mul_left _ (h t ht r' hr')) hD
theorem dvT_mono {D D' : Nat} {t : Tr} (hD : D' ∣ D) (h : dvT D' t) : dvT D t := fun r hr => Nat.dvd_trans (h r hr) hD
theorem many_dvd : ∀ (p : Path) (c : Nat × Nat), c ∈ p → c.2 ∣ under p
  | [], _, h => by cases h
  | d :: p, c, h => by
    rw [under_cons]
    rcases List.mem_cons.mp h with rfl | h
    · exact Nat.dvd_mul_right _ _
    · exact Nat.dvd_trans (many_dvd p c h) (Nat.dvd_mul_left _ _)
mutual
/-- tosses on a way -/
def Brk.td : Brk → Nat
  | .say _ => 0
  | .toss bs => 1 + tdL bs
  | .look _ f s => max f.td s.td
  | .ask _ next => next.td
def tdL : List Brk → Nat
  | [] => 0
  | b :: bs => max b.td (tdL bs)
end
mutual
theorem td_le : ∀ b : Brk, b.wf → b.td + 1 ≤ b.depth
  | .say _, _ => by rw [Brk.td, Brk.depth]; omega
  | .toss [], h => absurd rfl h.1
  | .toss (b :: bs), h => by rw [Brk.td, Brk.depth]; have := tdL_le (b :: bs) (by simp) h.2; omega
  | .look _ f s, h => by rw [Brk.td, Brk.depth]; have := td_le f h.1; have := td_le s h.2; omega
  | .ask _ next, h => by rw [Brk.td, Brk.depth]; have := td_le next h; omega
theorem tdL_le : ∀ bs : List Brk, bs ≠ [] → wfL bs → tdL bs + 1 ≤ depthL bs
  | [], h, _ => absurd rfl h
  | [b], _, h => by rw [tdL, depthL, tdL, depthL]; have := td_le b h.1; omega
  | b :: c :: bs, _, h => by rw [tdL, depthL]; have := td_le b h.1; have := tdL_le (c :: bs) (by simp) h.2; omega
end
def dvOf (mm : Nat) (td asks : Nat) : Nat := 6 ^ td * (2 ^ mm) ^ asks
theorem dvOf_mono {mm t t' a a' : Nat} (ht : t ≤ t') (ha : a ≤ a') : dvOf mm t a ∣ dvOf mm t' a' :=
  Nat.mul_dvd_mul (Nat.pow_dvd_pow _ ht) (Nat.pow_dvd_pow _ ha)
theorem dvd6 {k : Nat} (h0 : 0 < k) (h : k ≤ 3) : k ∣ 6 := by
  have : k = 1 ∨ k = 2 ∨ k = 3 := by omega
  rcases this with rfl | rfl | rfl <;> decide
def Wd.mm (mm : Nat) : Wd → Prop
  | .det _ => True
  | .any _ m _ => m = mm
mutual
theorem dv_tr {mm t : Nat} : ∀ (b : Brk) (w : Wd) (h : Bs), b.good t → w.mm mm → dvT (dvOf mm b.td b.asks) (tr b w h)
  | .say ps, w, h, _, _ => by
    rw [tr]
    intro r hr
    rw [leaves] at hr
    have : r = ([], made ps h) := by simpa using hr
    subst this
    exact Nat.one_dvd _
  | .toss bs, w, h, g, q => by
    rw [tr, Brk.td, Brk.asks]
    refine dvT_node (D' := dvOf mm (tdL bs) (asksL bs)) ?_ (dv_trL bs w h g.2.2 q)
    rw [trL_map, List.length_map, dvOf, dvOf, Nat.add_comm, Nat.pow_succ, Nat.mul_comm (6 ^ _) 6, Nat.mul_assoc]
    exact Nat.mul_dvd_mul_right (dvd6 (List.length_pos_iff.mpr g.1) g.2.1) _
  | .look i f s, w, h, g, q => by
    rw [tr, Brk.td, Brk.asks]
    split
    · exact dvT_mono (dvOf_mono (by omega) (by omega)) (dv_tr s w h g.2.2 q)
    · exact dvT_mono (dvOf_mono (by omega) (by omega)) (dv_tr f w h g.2.1 q)
  | .ask ps next, .det f, h, g, q => by
    rw [tr, Brk.td, Brk.asks]
    exact dvT_mono (dvOf_mono (by omega) (by omega)) (dv_tr next (.det f) _ g.2 q)
  | .ask ps next, .any l m told, h, g, q => by
    rw [tr, Brk.td, Brk.asks]
    have q' : m = mm := q
    split
    · split
      · exact dvT_mono (dvOf_mono (by omega) (by omega)) (dv_tr next (.any l m told) _ g.2 q)
      · refine dvT_node (D' := dvOf mm next.td next.asks) ?_ ?_
        · rw [List.length_map, allBs_length, q']
          have e : 2 ^ mm * dvOf mm next.td next.asks = dvOf mm next.td (next.asks + 1) := by
            unfold dvOf; rw [Nat.pow_succ (2 ^ mm)]; grind
          rw [e]
          exact Nat.dvd_refl _
        · intro t ht
          obtain ⟨v, _, rfl⟩ := List.mem_map.mp ht
          exact dv_tr next _ _ g.2 q
    · exact dvT_mono (dvOf_mono (by omega) (by omega)) (dv_tr next (.any l m told) _ g.2 q)
theorem dv_trL {mm t : Nat} : ∀ (bs : List Brk) (w : Wd) (h : Bs), goodL t bs → w.mm mm → ∀ t ∈ trL bs w h, dvT (dvOf mm (tdL bs) (asksL bs)) t
  | [], _, _, _, _ => by intro t ht; rw [trL] at ht; cases ht
  | b :: bs, w, h, g, q => by
    intro t ht
    rw [trL] at ht
    rw [tdL, asksL]
    rcases List.mem_cons.mp ht with rfl | ht
    · exact dvT_mono (dvOf_mono (by omega) (by omega)) (dv_tr b w h g.1 q)
    · exact dvT_mono (dvOf_mono (by omega) (by omega)) (dv_trL bs w h g.2 q t ht)
end
theorem rle_of_eq {a b : Rat} (h : a = b) : a ≤ b := h ▸ Rat.le_refl
/-! ### the generator -/
def det0 : Wd := .det (fun _ => [])
noncomputable def gEnds (rows : List Bs) (m : Nat) : List (Rat × Brk) := (allBs m).map fun v => told1 (((rows.count v : Nat) : Rat) / ((rows.length : Nat) : Rat) - 1 / pw m)
noncomputable def gbest (rows : List Bs) (m : Nat) : Rat × Brk := (sumR (gEnds rows m) (·.1), looking 0 m ((gEnds rows m).map (·.2)))
theorem count_sum (rows : List Bs) (v : Bs) : ((rows.count v : Nat) : Rat) = sumR (rows.filter fun r => decide (r = v)) (fun _ => 1) := by
  rw [← len_sumR, List.count_eq_length_filter]
  have : (fun r : Bs => r == v) = (fun r => decide (r = v)) := by
    funext r
    by_cases e : r = v
    · subst e; simp
    · have : (r == v) = false := by simpa using e
      rw [this]; simp [e]
  rw [this]
theorem gadv_sum {rows : List Bs} {m : Nat} (hr : ∀ r ∈ rows, r.length = m) (p : Bs → Rat) :
    sumR rows p / rows.length - sumR (allBs m) p / pw m = sumR (allBs m) (fun v => (((rows.count v : Nat) : Rat) / ((rows.length : Nat) : Rat) - 1 / pw m) * p v) := by
  rw [sumR_split rows m id hr p, ← sumR_div, ← sumR_div, ← sumR_sub]
  refine sumR_congr fun v _ => ?_
  have : sumR (rows.filter fun a => decide (id a = v)) p = (((rows.count v : Nat) : Rat)) * p v := by
    rw [count_sum]
    have : sumR (rows.filter fun a => decide (id a = v)) p = sumR (rows.filter fun a => decide (id a = v)) (fun _ => p v) := by
      refine sumR_congr fun r hr => ?_
      have : r = v := by simpa using (List.mem_filter.mp hr).2
      rw [this]
    rw [this, sumR_const, ← len_sumR]; rfl
  rw [this]
  grind
theorem gbest_fst (rows : List Bs) (m : Nat) : (gbest rows m).1 = sumR (allBs m) (fun v => pos (((rows.count v : Nat) : Rat) / ((rows.length : Nat) : Rat) - 1 / pw m)) := by
  unfold gbest gEnds
  rw [sumR_map]
  exact sumR_congr fun v _ => told1_fst _
theorem gupper {rows : List Bs} {m : Nat} (hr : ∀ r ∈ rows, r.length = m) (p : Bs → Rat) (hp : ∀ v, 0 ≤ p v ∧ p v ≤ 1) : sumR rows p / rows.length - sumR (allBs m) p / pw m ≤ (gbest rows m).1 := by
  rw [gadv_sum hr, gbest_fst]
  refine sumR_le fun v _ => ?_
  obtain ⟨h0, h1⟩ := hp v
  unfold pos
  split
  · rename_i g
    have := Rat.mul_le_mul_of_nonneg_left h1 (Rat.le_of_lt g)
    grind
  · rename_i g
    have g' : 0 ≤ -(((rows.count v : Nat) : Rat) / ((rows.length : Nat) : Rat) - 1 / pw m) := by grind
    have := Rat.mul_nonneg g' h0
    grind
def gAdv (rows : List Bs) (m : Nat) (b : Brk) : Rat := sumR rows (fun r => P b det0 r) / rows.length - sumR (allBs m) (fun v => P b det0 v) / pw m
theorem gbest_P {rows : List Bs} {m : Nat} {v : Bs} (hv : v.length = m) : P (gbest rows m).2 det0 v = if 0 < ((rows.count v : Nat) : Rat) / ((rows.length : Nat) : Rat) - 1 / pw m then 1 else 0 := by
  obtain ⟨b, hb, ht⟩ := tr_looking det0 v m 0 ((gEnds rows m).map (·.2)) [] v [] (by simp) rfl hv (by unfold gEnds; simp [allBs_length])
  unfold P gbest
  rw [ht]
  have : ((gEnds rows m).map (·.2))[numOf v]? = some (told1 (((rows.count v : Nat) : Rat) / ((rows.length : Nat) : Rat) - 1 / pw m)).2 := by
    unfold gEnds
    rw [List.getElem?_map, List.getElem?_map, ← hv, allBs_numOf]; rfl
  rw [this] at hb
  cases hb
  exact told1_P _ _ _
theorem gattain {rows : List Bs} {m : Nat} (hr : ∀ r ∈ rows, r.length = m) : gAdv rows m (gbest rows m).2 = (gbest rows m).1 := by
  unfold gAdv
  rw [gadv_sum hr, gbest_fst]
  refine sumR_congr fun v hv => ?_
  rw [gbest_P (mem_allBs.mp hv)]
  unfold pos
  split <;> grind
theorem gAdv_le {rows : List Bs} {m : Nat} (hr : ∀ r ∈ rows, r.length = m) (b : Brk) (hb : b.wf) : gAdv rows m b ≤ (gbest rows m).1 :=
  gupper hr _ fun v => P_range b det0 v hb
theorem gbest_nonneg (rows : List Bs) (m : Nat) : 0 ≤ (gbest rows m).1 := by
  rw [gbest_fst]; exact sumR_nonneg fun v _ => pos_nonneg _
/-! ### longer -/
def rowAt (rows : List Bs) (x : Bs) : Bs := rows.getD (numOf x) []
def putOut (rows : List Bs) : Nat → Bs → Bs
  | 0, st => st
  | k + 1, st => (rowAt rows st).getLastD false :: putOut rows k (rowAt rows st).dropLast
def longRows (rows : List Bs) (n k : Nat) : List Bs := (allBs n).map (putOut rows k)
theorem sum_rows {rows : List Bs} {n : Nat} (hl : rows.length = 2 ^ n) (f : Bs → Rat) : sumR (allBs n) (fun x => f (rowAt rows x)) = sumR rows f := by
  unfold allBs
  rw [sumR_map]
  have e : sumR (List.range (2 ^ n)) (fun v => f (rowAt rows (bitsOf n v))) = sumR (List.range (2 ^ n)) (fun v => f (rows.getD v [])) := by
    refine sumR_congr fun v hv => ?_
    unfold rowAt
    rw [numOf_bitsOf n v (List.mem_range.mp hv)]
  rw [e, ← hl, ← sumR_map (List.range rows.length) (fun v => rows.getD v []) f]
  congr 1
  apply List.ext_getElem?
  intro i
  rw [List.getElem?_map]
  by_cases h : i < rows.length
  · rw [List.getElem?_range h]; simp [h]
  · simp only [Nat.not_lt] at h
    rw [List.getElem?_eq_none (by simpa using h), List.getElem?_eq_none h]; rfl
structure GenOk (rows : List Bs) (n m : Nat) : Prop where
  len : rows.length = 2 ^ n
  row : ∀ r ∈ rows, r.length = m
theorem GenOk.at {rows : List Bs} {n m : Nat} (g : GenOk rows n m) {x : Bs} (hx : x.length = n) : (rowAt rows x).length = m := by
  have h : numOf x < rows.length := by rw [g.len, ← hx]; exact numOf_lt x
  unfold rowAt
  rw [List.getD_eq_getElem?_getD, List.getElem?_eq_getElem h]
  exact g.row _ (List.getElem_mem h)
theorem putOut_len {rows : List Bs} {n : Nat} (g : GenOk rows n (n + 1)) : ∀ (k : Nat) (x : Bs), x.length = n → (putOut rows k x).length = n + k
  | 0, x, h => h
  | k + 1, x, h => by
    rw [putOut, List.length_cons, putOut_len g k _ (by rw [List.length_dropLast, g.at h]; rfl)]; rfl
theorem longRows_ok {rows : List Bs} {n : Nat} (g : GenOk rows n (n + 1)) (k : Nat) : GenOk (longRows rows n k) n (n + k) where
  len := by unfold longRows; rw [List.length_map, allBs_length]
  row := fun r hr => by
    obtain ⟨x, hx, rfl⟩ := List.mem_map.mp hr
    exact putOut_len g k x (mem_allBs.mp hx)
theorem longer_hybrid {rows : List Bs} {n : Nat} (g : GenOk rows n (n + 1)) : ∀ (k : Nat) (p : Bs → Rat), (∀ v, 0 ≤ p v ∧ p v ≤ 1) →
    sumR (allBs n) (fun x => p (putOut rows k x)) / pw n - sumR (allBs (n + k)) p / pw (n + k) ≤ k * (gbest rows (n + 1)).1
  | 0, p, _ => by
    simp only [putOut, Nat.add_zero]
    show sumR (allBs n) p / pw n - sumR (allBs n) p / pw n ≤ ((0 : Nat) : Rat) * _
    have : ((0 : Nat) : Rat) = 0 := rfl
    rw [this]
    grind
  | k + 1, p, hp => by
    have a := gupper g.row (fun y => p (y.getLastD false :: putOut rows k y.dropLast)) fun v => hp _
    rw [← sum_rows g.len, g.len, sumB_succ] at a
    have e1 : ∀ x : Bs, (x ++ [false]).getLastD false = false := fun x => by simp
    have e2 : ∀ x : Bs, (x ++ [true]).getLastD false = true := fun x => by simp
    simp only [e1, e2, List.dropLast_concat] at a
    rw [sumR_add] at a
    have b0 := longer_hybrid g k (fun z => p (false :: z)) fun v => hp _
    have b1 := longer_hybrid g k (fun z => p (true :: z)) fun v => hp _
    simp only [putOut]
    rw [← Nat.add_assoc, sumB_cons, sumR_add]
    have ep : pw (n + k + 1) = pw (n + k) * 2 := by rw [pw_add]; rfl
    have eq : pw (n + 1) = pw n * 2 := by rw [pw_add]; rfl
    rw [ep]
    rw [eq] at a
    have h1 := pw_ne n
    have h2 := pw_ne (n + k)
    have q1 : ((2 ^ n : Nat) : Rat) = pw n := rfl
    rw [q1] at a
    have d1 : ∀ u v : Rat, (u + v) / (pw n * 2) = (u / pw n + v / pw n) / 2 := fun u v => by grind
    have d2 : ∀ u v : Rat, (u + v) / (pw (n + k) * 2) = (u / pw (n + k) + v / pw (n + k)) / 2 := fun u v => by grind
    rw [d1] at a
    rw [d2]
    push_cast
    grind
theorem longer_best {rows : List Bs} {n : Nat} (g : GenOk rows n (n + 1)) (k : Nat) : (gbest (longRows rows n k) (n + k)).1 ≤ k * (gbest rows (n + 1)).1 := by
  have g' := longRows_ok g k
  rw [← gattain g'.row]
  unfold gAdv
  rw [g'.len, longRows, sumR_map]
  let b := (gbest (longRows rows n k) (n + k)).2
  have := longer_hybrid g k (fun v => if 0 ≤ P b det0 v ∧ P b det0 v ≤ 1 then P b det0 v else 0) (fun v => by
    split
    · assumption
    · grind)
  have hb : ∀ v : Bs, v.length = n + k → (0 ≤ P b det0 v ∧ P b det0 v ≤ 1) := fun v hv => by
    show 0 ≤ P (gbest (longRows rows n k) (n + k)).2 det0 v ∧ _
    rw [gbest_P hv]; split <;> grind
  refine Rat.le_trans (rle_of_eq ?_) this
  have e1 : sumR (allBs n) (fun x => P b det0 (putOut rows k x)) = sumR (allBs n) (fun x => if 0 ≤ P b det0 (putOut rows k x) ∧ P b det0 (putOut rows k x) ≤ 1 then P b det0 (putOut rows k x) else 0) :=
    sumR_congr fun x hx => by rw [if_pos (hb _ (putOut_len g k x (mem_allBs.mp hx)))]
  have e2 : sumR (allBs (n + k)) (fun v => P b det0 v) = sumR (allBs (n + k)) (fun v => if 0 ≤ P b det0 v ∧ P b det0 v ≤ 1 then P b det0 v else 0) :=
    sumR_congr fun x hx => by rw [if_pos (hb _ (mem_allBs.mp hx))]
  show sumR (allBs n) (fun x => P b det0 (putOut rows k x)) / ((2 ^ n : Nat) : Rat) - sumR (allBs (n + k)) (fun v => P b det0 v) / pw (n + k) = _
  rw [e1, e2]; rfl
/-! ### a tree of one level -/
def halfOf (y : Bs) (b : Bool) : Bs := if b then y.drop (y.length / 2) else y.take (y.length / 2)
def ov (told : List (Bs × Bs)) (y0 y1 : Bs) (s : Bs) : Bs := if s.length = 1 then (match told.lookup s with | some a => a | none => if s = [false] then y0 else y1) else []
theorem ov_told {told : List (Bs × Bs)} {y0 y1 s a : Bs} (hs : s.length = 1) (h : told.lookup s = some a) : ov told y0 y1 s = a := by
  unfold ov; rw [if_pos hs, h]
theorem lookup_snoc {told : List (Bs × Bs)} {s v t : Bs} (h : told.lookup s = none) : (told ++ [(s, v)]).lookup t = if t = s then some v else told.lookup t := by
  induction told with
  | nil =>
    rw [List.nil_append, List.lookup_cons]
    by_cases e : t = s
    · subst e; simp
    · have : (t == s) = false := by simpa using e
      rw [this, if_neg e]
  | cons c told ih =>
    obtain ⟨x, y⟩ := c
    rw [List.lookup_cons] at h
    rw [List.cons_append, List.lookup_cons, List.lookup_cons]
    by_cases e : t = x
    · subst e
      have : t ≠ s := by
        intro q; subst q; simp at h
      simp [this]
    · have h1 : (t == x) = false := by simpa using e
      rw [h1]
      have h2 : told.lookup s = none := by
        by_cases e2 : s = x
        · subst e2; simp at h
        · have h3 : (s == x) = false := by simpa using e2
          rw [h3] at h; exact h
      exact ih h2
theorem ov_more0 {told : List (Bs × Bs)} {y0 y1 v : Bs} (h : told.lookup [false] = none) : ov (told ++ [([false], v)]) y0 y1 = ov told v y1 := by
  funext t
  unfold ov
  split
  · rw [lookup_snoc h]
    by_cases e : t = [false]
    · subst e; rw [if_pos rfl, h]; simp
    · rw [if_neg e]
      cases told.lookup t <;> simp [e]
  · rfl
theorem ov_more1 {told : List (Bs × Bs)} {y0 y1 v : Bs} (h : told.lookup [true] = none) : ov (told ++ [([true], v)]) y0 y1 = ov told y0 v := by
  funext t
  unfold ov
  split
  · rename_i ht
    rw [lookup_snoc h]
    by_cases e : t = [true]
    · subst e; rw [if_pos rfl, h]; simp
    · rw [if_neg e]
      have : t = [false] := by
        match t, ht with
        | [false], _ => rfl
        | [true], _ => exact absurd rfl e
      subst this
      cases told.lookup [false] <;> rfl
  · rfl
def eager (b : Brk) (m : Nat) (told : List (Bs × Bs)) (h : Bs) : Rat := sumR (allBs m) (fun y0 => sumR (allBs m) (fun y1 => P b (.det (ov told y0 y1)) h)) / (pw m * pw m)
mutual
theorem lazy_eager {m : Nat} : ∀ (b : Brk) (told : List (Bs × Bs)) (h : Bs), P b (.any 1 m told) h = eager b m told h
  | .say ps, told, h => by
    unfold eager
    simp only [P_say]
    rw [sumR_const, sumR_const, allBs_length]
    have h1 := pw_ne m
    show _ = pw m * (pw m * _) / _
    grind
  | .toss bs, told, h => by
    rw [P_toss, lazy_eagerL bs told h]
    unfold eager
    simp only [P_toss, sumR_div]
    have e : sumR (allBs m) (fun y0 => sumR (allBs m) (fun y1 => sumR bs (fun b => P b (.det (ov told y0 y1)) h))) = sumR bs (fun b => sumR (allBs m) (fun y0 => sumR (allBs m) (fun y1 => P b (.det (ov told y0 y1)) h))) := by
      rw [← sumR_swap (allBs m) bs]
      refine sumR_congr fun y0 _ => ?_
      rw [sumR_swap]
    rw [e]
    simp only [Rat.div_def]
    grind
  | .look i f s, told, h => by
    rw [P_look]
    unfold eager
    simp only [P_look]
    split
    · exact lazy_eager s told h
    · exact lazy_eager f told h
  | .ask ps next, told, h => by
    rw [P_any]
    unfold eager
    simp only [P_det]
    have h1 := pw_ne m
    split
    · rename_i hs
      cases hn : told.lookup (made ps h) with
      | some a =>
        simp only
        rw [lazy_eager next told (h ++ a)]
        unfold eager
        simp only [ov_told hs hn]
      | none =>
        simp only
        have ih : ∀ v, P next (.any 1 m (told ++ [(made ps h, v)])) (h ++ v) = eager next m (told ++ [(made ps h, v)]) (h ++ v) := fun v => lazy_eager next _ _
        simp only [ih]
        unfold eager
        have hcase : made ps h = [false] ∨ made ps h = [true] := by
          match made ps h, hs with
          | [false], _ => exact .inl rfl
          | [true], _ => exact .inr rfl
        rcases hcase with e | e
        · rw [e] at hn ⊢
          have e0 : ∀ y0 y1, ov told y0 y1 [false] = y0 := fun y0 y1 => by unfold ov; rw [if_pos rfl, hn]; rfl
          simp only [ov_more0 hn, e0]
          rw [sumR_div]
          have : sumR (allBs m) (fun v => sumR (allBs m) (fun y0 => sumR (allBs m) (fun y1 => P next (.det (ov told v y1)) (h ++ v)))) = pw m * sumR (allBs m) (fun v => sumR (allBs m) (fun y1 => P next (.det (ov told v y1)) (h ++ v))) := by
            rw [← sumR_mul]
            refine sumR_congr fun v _ => ?_
            rw [sumR_const, allBs_length]; rfl
          rw [this]
          grind
        · rw [e] at hn ⊢
          have e0 : ∀ y0 y1, ov told y0 y1 [true] = y1 := fun y0 y1 => by simp [ov, hn]
          simp only [ov_more1 hn, e0]
          rw [sumR_div]
          have : sumR (allBs m) (fun v => sumR (allBs m) (fun y0 => sumR (allBs m) (fun y1 => P next (.det (ov told y0 v)) (h ++ v)))) = pw m * sumR (allBs m) (fun y0 => sumR (allBs m) (fun v => P next (.det (ov told y0 v)) (h ++ v))) := by
            rw [← sumR_mul]
            rw [sumR_swap]
            refine sumR_congr fun y0 _ => ?_
            rw [← sumR_mul]
            refine sumR_congr fun v _ => ?_
            rw [sumR_const, allBs_length]; rfl
          rw [this]
          grind
    · rename_i hs
      rw [lazy_eager next told h]
      unfold eager
      have e0 : ∀ y0 y1, ov told y0 y1 (made ps h) = [] := fun y0 y1 => by unfold ov; rw [if_neg hs]
      simp only [e0, List.append_nil]
theorem lazy_eagerL {m : Nat} : ∀ (bs : List Brk) (told : List (Bs × Bs)) (h : Bs), sumR bs (fun b => P b (.any 1 m told) h) = sumR bs (fun b => eager b m told h)
  | [], _, _ => rfl
  | b :: bs, told, h => by rw [sumR_cons, sumR_cons, lazy_eager b told h, lazy_eagerL bs told h]
end
/-- the function that a tree of one level makes -/
def treeF (rows : List Bs) (k : Nat) (s : Bs) : Bs := halfOf (rows.getD k []) (s.headD false)
theorem half_len {y : Bs} {n : Nat} (h : y.length = 2 * n) (b : Bool) : (halfOf y b).length = n := by
  unfold halfOf; split <;> simp <;> omega
/-- a function's table is right -/
structure FunOk (F : Nat → Bs → Bs) (n l m : Nat) : Prop where
  len : ∀ k s, k < 2 ^ n → s.length = l → (F k s).length = m
theorem tree_adv {rows : List Bs} {n : Nat} (g : GenOk rows n (2 * n)) {F : Nat → Bs → Bs} (hF : ∀ k s, k < 2 ^ n → s.length = 1 → F k s = treeF rows k s) (b : Brk) (hb : b.wf) :
    adv F n 1 n b (List.range (2 ^ n)) [] [] ≤ (gbest rows (2 * n)).1 := by
  have key := gupper g.row (fun y => P b (.det (ov [] (halfOf y false) (halfOf y true))) []) fun v => P_range b _ _ hb
  refine Rat.le_trans (rle_of_eq ?_) key
  unfold adv
  rw [lazy_eager]
  unfold eager
  simp only [List.length_nil, Nat.mul_zero, pw_zero]
  have e1 : sumR (allBs (2 * n)) (fun y => P b (.det (ov [] (halfOf y false) (halfOf y true))) []) = sumR (allBs n) (fun y0 => sumR (allBs n) (fun y1 => P b (.det (ov [] y0 y1)) [])) := by
    rw [show 2 * n = n + n by omega, sumB_add]
    refine sumR_congr fun y0 h0 => sumR_congr fun y1 h1 => ?_
    have l0 := mem_allBs.mp h0
    have l1 := mem_allBs.mp h1
    have a0 : halfOf (y0 ++ y1) false = y0 := by
      unfold halfOf
      have : (y0 ++ y1).length / 2 = y0.length := by rw [List.length_append]; omega
      rw [this]; simp
    have a1 : halfOf (y0 ++ y1) true = y1 := by
      unfold halfOf
      have : (y0 ++ y1).length / 2 = y0.length := by rw [List.length_append]; omega
      rw [this]; simp
    rw [a0, a1]
  rw [e1]
  have e2 : sumR (List.range (2 ^ n)) (fun k => P b (.det (ans F 1 k)) []) = sumR rows (fun y => P b (.det (ov [] (halfOf y false) (halfOf y true))) []) := by
    rw [← sum_rows g.len]
    unfold allBs
    rw [sumR_map]
    refine sumR_congr fun k hk => ?_
    have : rowAt rows (bitsOf n k) = rows.getD k [] := by unfold rowAt; rw [numOf_bitsOf n k (List.mem_range.mp hk)]
    rw [this]
    congr 2
    funext s
    unfold ans ov
    split
    · rename_i hs
      rw [hF k s (List.mem_range.mp hk) hs]
      unfold treeF
      match s, hs with
      | [false], _ => rfl
      | [true], _ => rfl
    · rfl
  rw [e2, g.len]
  have : pw (2 * n) = pw n * pw n := by rw [show 2 * n = n + n by omega, pw_add]
  rw [this]
  have : ((2 ^ n : Nat) : Rat) = pw n := rfl
  rw [this]
  grind
end BB

set_option autoImplicit false
set_option linter.all false
namespace BB
theorem asks_max_look (i : Nat) (f s : Brk) : (Brk.look i f s).asks = max f.asks s.asks := by rw [Brk.asks]
theorem told1_ok (g : Rat) : (told1 g).2.good 9 ∧ (told1 g).2.td = 0 ∧ (told1 g).2.asks = 0 ∧ (told1 g).2.depth = 1 ∧ (told1 g).2.nodes = 1 ∧ (told1 g).2.cnt 4 = 1 := by
  unfold told1
  split <;> simp [Brk.good, Brk.td, Brk.asks, Brk.depth, Brk.nodes, Brk.cnt, Part.small]
theorem bf_ok {F : Nat → Bs → Bs} {n l m : Nat} (hl : l ≤ 2) (hm : m ≤ 2) : ∀ (left : Nat) (keys : List Nat) (asked : List Bs), asked.length + left ≤ 2 →
    (bf F n l m left keys asked).2.good 9 ∧ (bf F n l m left keys asked).2.td = 0 ∧ (bf F n l m left keys asked).2.asks ≤ left ∧ (bf F n l m left keys asked).2.depth ≤ 1 + 3 * left ∧
      (bf F n l m left keys asked).2.nodes ≤ 8 ^ left ∧ (bf F n l m left keys asked).2.cnt 4 ≤ 16 ^ left
  | 0, keys, asked, _ => by
    rw [bf]
    obtain ⟨a, b, c, d, e, f⟩ := told1_ok (gainAt n m keys asked)
    exact ⟨a, b, by omega, by omega, by rw [e]; exact Nat.le_refl _, by rw [f]; exact Nat.le_refl _⟩
  | left + 1, keys, asked, h => by
    by_cases hn : newsOf l asked = []
    · rw [bf_nil F n l m hn]
      obtain ⟨a, b, c, d, e, f⟩ := told1_ok (gainAt n m keys asked)
      exact ⟨a, b, by omega, by omega, by rw [e]; exact Nat.pow_pos (by decide), by rw [f]; exact Nat.pow_pos (by decide)⟩
    · obtain ⟨s, hs, e, _⟩ := bf_some F n l m (left := left) (keys := keys) hn
      rw [e]
      unfold candOf
      simp only
      have ih : ∀ b ∈ (subOf F n l m left keys asked s).map (·.2), b.good 9 ∧ b.td = 0 ∧ b.asks ≤ left ∧ b.depth ≤ 1 + 3 * left ∧ b.nodes ≤ 8 ^ left ∧ b.cnt 4 ≤ 16 ^ left := fun b hb => by
        obtain ⟨r, hr, rfl⟩ := List.mem_map.mp hb
        obtain ⟨v, _, rfl⟩ := List.mem_map.mp hr
        exact bf_ok hl hm left _ _ (by rw [List.length_append, List.length_singleton]; omega)
      have hlen : ((subOf F n l m left keys asked s).map (·.2)).length = 2 ^ m := by unfold subOf; simp [allBs_length]
      generalize hB : (subOf F n l m left keys asked s).map (·.2) = bs at ih hlen
      have hlk : m * asked.length + m ≤ 4 := by
        have : m * asked.length + m = m * (asked.length + 1) := by rw [Nat.mul_add, Nat.mul_one]
        rw [this]
        exact Nat.le_trans (Nat.mul_le_mul hm (show asked.length + 1 ≤ 2 by omega)) (by decide)
      have hm4 : 2 ^ m ≤ 4 := Nat.pow_le_pow_right (n := 2) (by decide) hm
      have q : (looking (m * asked.length) m bs).good 9 ∧ (looking (m * asked.length) m bs).td = 0 ∧ (looking (m * asked.length) m bs).asks ≤ left :=
        looking_ind (Q := fun b => b.good 9 ∧ b.td = 0 ∧ b.asks ≤ left) (top := 4) (by simp [Brk.good, Brk.td, Brk.asks]) (fun i f s hi a b => by
          rw [Brk.good, Brk.td, Brk.asks]
          exact ⟨⟨by omega, a.1, b.1⟩, by omega, by omega⟩) m _ bs hlk fun b hb => ⟨(ih b hb).1, (ih b hb).2.1, (ih b hb).2.2.1⟩
      have d := looking_max (g := Brk.depth) (c := 1 + 3 * left) (fun ps => by rw [Brk.depth]; omega) (fun i f s => by rw [Brk.depth]; omega) m (m * asked.length) bs fun b hb => (ih b hb).2.2.2.1
      have nn := looking_sum (g := Brk.nodes) (c := 1) (fun i f s => by rw [Brk.nodes]; omega) m (m * asked.length) bs hlen
      have cc := looking_sum (g := Brk.cnt 4) (c := 0) (fun i f s => by rw [Brk.cnt]; omega) m (m * asked.length) bs hlen
      have nb := sumN_le bs Brk.nodes (8 ^ left) fun b hb => (ih b hb).2.2.2.2.1
      have cb := sumN_le bs (Brk.cnt 4) (16 ^ left) fun b hb => (ih b hb).2.2.2.2.2
      rw [hlen] at nb cb
      have nb' : 2 ^ m * 8 ^ left ≤ 4 * 8 ^ left := Nat.mul_le_mul_right _ hm4
      have cb' : 2 ^ m * 16 ^ left ≤ 4 * 16 ^ left := Nat.mul_le_mul_right _ hm4
      have p8 : 0 < 8 ^ left := Nat.pow_pos (by decide)
      refine ⟨?_, ?_, ?_, ?_, ?_, ?_⟩
      · rw [Brk.good]
        refine ⟨⟨?_, ?_⟩, q.1⟩
        · rw [List.length_map, (news_mem.mp hs).1]; omega
        · intro p hp
          obtain ⟨b, _, rfl⟩ := List.mem_map.mp hp
          trivial
      · rw [Brk.td]; exact q.2.1
      · rw [Brk.asks]; omega
      · rw [Brk.depth]; omega
      · rw [Brk.nodes, Nat.pow_succ]; omega
      · rw [Brk.cnt, Nat.pow_succ]; omega
theorem gbest_ok {rows : List Bs} {m : Nat} (hm : m ≤ 4) : (gbest rows m).2.good 9 ∧ (gbest rows m).2.td = 0 ∧ (gbest rows m).2.asks = 0 ∧ (gbest rows m).2.depth ≤ 5 ∧ (gbest rows m).2.nodes ≤ 31 ∧ (gbest rows m).2.cnt 4 ≤ 16 := by
  unfold gbest
  simp only
  have ih : ∀ b ∈ (gEnds rows m).map (·.2), b.good 9 ∧ b.td = 0 ∧ b.asks = 0 ∧ b.depth = 1 ∧ b.nodes = 1 ∧ b.cnt 4 = 1 := fun b hb => by
    obtain ⟨r, hr, rfl⟩ := List.mem_map.mp hb
    obtain ⟨v, _, rfl⟩ := List.mem_map.mp hr
    exact told1_ok _
  have hlen : ((gEnds rows m).map (·.2)).length = 2 ^ m := by unfold gEnds; simp [allBs_length]
  generalize hB : (gEnds rows m).map (·.2) = bs at ih hlen
  have hm4 : 2 ^ m ≤ 16 := Nat.pow_le_pow_right (n := 2) (by decide) hm
  have q : (looking 0 m bs).good 9 ∧ (looking 0 m bs).td = 0 ∧ (looking 0 m bs).asks = 0 :=
    looking_ind (Q := fun b => b.good 9 ∧ b.td = 0 ∧ b.asks = 0) (top := 4) (by simp [Brk.good, Brk.td, Brk.asks]) (fun i f s hi a b => by
      rw [Brk.good, Brk.td, Brk.asks]
      exact ⟨⟨by omega, a.1, b.1⟩, by omega, by omega⟩) m _ bs (by omega) fun b hb => ⟨(ih b hb).1, (ih b hb).2.1, (ih b hb).2.2.1⟩
  have d := looking_max (g := Brk.depth) (c := 1) (fun ps => by rw [Brk.depth]; omega) (fun i f s => by rw [Brk.depth]; omega) m 0 bs fun b hb => by rw [(ih b hb).2.2.2.1]; exact Nat.le_refl _
  have nn := looking_sum (g := Brk.nodes) (c := 1) (fun i f s => by rw [Brk.nodes]; omega) m 0 bs hlen
  have cc := looking_sum (g := Brk.cnt 4) (c := 0) (fun i f s => by rw [Brk.cnt]; omega) m 0 bs hlen
  have nb := sumN_le bs Brk.nodes 1 fun b hb => by rw [(ih b hb).2.2.2.2.1]; exact Nat.le_refl _
  have cb := sumN_le bs (Brk.cnt 4) 1 fun b hb => by rw [(ih b hb).2.2.2.2.2]; exact Nat.le_refl _
  rw [hlen] at nb cb
  refine ⟨q.1, q.2.1, q.2.2, by omega, by omega, by omega⟩
/-! ### the games' trees -/
def gReal (rows : List Bs) (b : Brk) : Tr := .node (rows.map fun r => tr b det0 r)
def gAny (m : Nat) (b : Brk) : Tr := .node ((allBs m).map fun v => tr b det0 v)
def fReal (F : Nat → Bs → Bs) (n l : Nat) (b : Brk) : Tr := .node ((List.range (2 ^ n)).map fun k => tr b (.det (ans F l k)) [])
def fAny (l m : Nat) (b : Brk) : Tr := tr b (.any l m []) []
theorem gAdv_p (rows : List Bs) (m : Nat) (b : Brk) : gAdv rows m b = (gReal rows b).p - (gAny m b).p := by
  unfold gReal gAny gAdv
  rw [p_node, p_node, sumR_map, sumR_map, List.length_map, List.length_map, allBs_length]; rfl
theorem adv_p (F : Nat → Bs → Bs) (n l m : Nat) (b : Brk) : adv F n l m b (List.range (2 ^ n)) [] [] = (fReal F n l b).p - (fAny l m b).p := by
  unfold fReal fAny adv
  rw [p_node, sumR_map, List.length_map, List.length_range]
  simp only [List.length_nil, Nat.mul_zero, pw_zero]
  have : ∀ x : Rat, x / 1 = x := fun x => by grind
  rw [this]; rfl
/-- a tree that the program can go through -/
structure TrS (t : Tr) : Prop where
  ok : t.ok
  ways : (leaves t).length ≤ 300000
  dv : dvT 55296 t
theorem sumN_const {α : Type} (l : List α) (c : Nat) : sumN l (fun _ => c) = l.length * c := by
  induction l with
  | nil => simp [sumN]
  | cons a l ih => rw [sumN_cons, ih, List.length_cons, Nat.add_mul]; omega
theorem sumN_map {α β : Type} (l : List α) (g : α → β) (f : β → Nat) : sumN (l.map g) f = sumN l (fun a => f (g a)) := by
  unfold sumN; rw [List.map_map]; rfl
theorem node_S {α : Type} {xs : List α} {t : Nat} {b : Brk} {w : α → Wd} {h : α → Bs} {mm a : Nat} (hw : ∀ x ∈ xs, (w x).mm mm) (hle : ∀ x ∈ xs, (w x).le 4) (hx : xs ≠ []) (hx16 : xs.length ∣ 16) (hg : b.good t)
    (hc : b.cnt 4 ≤ 6912) (hd : dvOf mm b.td b.asks ∣ 3456) : TrS (.node (xs.map fun x => tr b (w x) (h x))) where
  ok := by
    rw [Tr.ok, okL_iff]
    refine ⟨by simpa using hx, fun t ht => ?_⟩
    obtain ⟨x, _, rfl⟩ := List.mem_map.mp ht
    exact tr_ok _ _ _ (good_wf b hg)
  ways := by
    rw [leaves_node]
    have : sumN (xs.map fun x => tr b (w x) (h x)) (fun t => (leaves t).length) ≤ (xs.map fun x => tr b (w x) (h x)).length * 6912 := sumN_le _ _ _ fun t ht => by
      obtain ⟨x, hx', rfl⟩ := List.mem_map.mp ht
      exact Nat.le_trans (leaves_le (by decide) b _ _ (hle x hx')) hc
    rw [List.length_map] at this
    have l16 : xs.length ≤ 16 := Nat.le_of_dvd (by decide) hx16
    omega
  dv := dvT_node (D' := 3456) (by rw [List.length_map]; exact Nat.mul_dvd_mul hx16 (Nat.dvd_refl 3456)) fun t ht => by
    obtain ⟨x, hx', rfl⟩ := List.mem_map.mp ht
    exact dvT_mono hd (dv_tr b _ _ hg (hw x hx'))
/-- a breaker that is small enough -/
structure BrS (b : Brk) (mm : Nat) : Prop where
  good : b.good 9
  depth : b.depth ≤ 60
  nodes : b.nodes ≤ 2000
  cnt : b.cnt 4 ≤ 6912
  dv : dvOf mm b.td b.asks ∣ 3456
theorem BrS.wf {b : Brk} {mm : Nat} (s : BrS b mm) : b.wf := good_wf b s.good
theorem pow16 {n : Nat} (h : n ≤ 4) : 2 ^ n ∣ 16 := Nat.pow_dvd_pow 2 h
theorem gReal_S {rows : List Bs} {n m : Nat} (g : GenOk rows n m) (hn : n ≤ 4) {b : Brk} {mm : Nat} (s : BrS b mm) : TrS (gReal rows b) :=
  node_S (w := fun _ => det0) (fun _ _ => trivial) (fun _ _ => trivial) (fun e => by have := g.len; rw [e] at this; have := Nat.two_pow_pos n; simp at *; omega) (by rw [g.len]; exact pow16 hn) s.good s.cnt s.dv (a := 0)
theorem gAny_S {m : Nat} (hm : m ≤ 4) {b : Brk} {mm : Nat} (s : BrS b mm) : TrS (gAny m b) :=
  node_S (w := fun _ => det0) (fun _ _ => trivial) (fun _ _ => trivial) (fun e => by have := congrArg List.length e; rw [allBs_length] at this; have := Nat.two_pow_pos m; simp at *) (by rw [allBs_length]; exact pow16 hm) s.good s.cnt s.dv (a := 0)
theorem fReal_S {F : Nat → Bs → Bs} {n l : Nat} (hn : n ≤ 4) {b : Brk} {mm : Nat} (s : BrS b mm) : TrS (fReal F n l b) :=
  node_S (w := fun k => .det (ans F l k)) (h := fun _ => []) (fun _ _ => trivial) (fun _ _ => trivial) (fun e => by have := congrArg List.length e; rw [List.length_range] at this; have := Nat.two_pow_pos n; simp at *) (by rw [List.length_range]; exact pow16 hn) s.good s.cnt s.dv (a := 0)
theorem fAny_S {l m : Nat} (hm : m ≤ 2) {b : Brk} (s : BrS b m) : TrS (fAny l m b) where
  ok := tr_ok _ _ _ s.wf
  ways := Nat.le_trans (leaves_le (M := 4) (by decide) b _ _ (Nat.pow_le_pow_right (n := 2) (by decide) hm)) (Nat.le_trans s.cnt (by decide))
  dv := dvT_mono (Nat.dvd_trans s.dv (by decide)) (dv_tr b (.any l m []) [] s.good rfl)
theorem dvOf_small {mm td asks : Nat} (h : td ≤ 3) (h2 : mm * asks ≤ 4) : dvOf mm td asks ∣ 3456 := by
  have : dvOf mm td asks ∣ 6 ^ 3 * 2 ^ 4 := by
    unfold dvOf
    refine Nat.mul_dvd_mul (Nat.pow_dvd_pow 6 h) ?_
    rw [← Nat.pow_mul]
    exact Nat.pow_dvd_pow 2 h2
  exact this
/-- a drawn breaker -/
structure Drawn (b : Brk) (asks : Nat) : Prop where
  good : b.good 9
  depth : b.depth ≤ 4
  asks : b.asks ≤ asks
theorem Drawn.S {b : Brk} {a m : Nat} (d : Drawn b a) (ha : a ≤ 2) (hm : m ≤ 2) : BrS b m where
  good := d.good
  depth := Nat.le_trans d.depth (by decide)
  nodes := by
    have := nodes_le b d.good
    have : 3 ^ b.depth ≤ 3 ^ 4 := Nat.pow_le_pow_right (by decide) d.depth
    omega
  cnt := by
    refine Nat.le_trans (cnt_le (M := 4) (by decide) b d.good) ?_
    have h1 : 3 ^ (b.depth - 1) ≤ 3 ^ 3 := Nat.pow_le_pow_right (by decide) (by have := d.depth; omega)
    have h2 : 4 ^ b.asks ≤ 4 ^ 2 := Nat.pow_le_pow_right (by decide) (by have := d.asks; omega)
    exact Nat.le_trans (Nat.mul_le_mul h1 h2) (by decide)
  dv := dvOf_small (by have := td_le b (good_wf b d.good); have := d.depth; omega) (by
    have := d.asks
    exact Nat.le_trans (Nat.mul_le_mul hm (show b.asks ≤ 2 by omega)) (by decide))
theorem bf_S {F : Nat → Bs → Bs} {n l m : Nat} (hl : l ≤ 2) (hm : m ≤ 2) {left : Nat} (h : left ≤ 2) (keys : List Nat) : BrS (bf F n l m left keys []).2 m := by
  obtain ⟨a, b, c, d, e, f⟩ := bf_ok (F := F) (n := n) hl hm left keys [] (by simpa using h)
  refine ⟨a, by omega, ?_, ?_, ?_⟩
  · have : 8 ^ left ≤ 8 ^ 2 := Nat.pow_le_pow_right (by decide) h
    omega
  · have : 16 ^ left ≤ 16 ^ 2 := Nat.pow_le_pow_right (by decide) h
    omega
  · rw [b]; exact dvOf_small (by omega) (Nat.le_trans (Nat.mul_le_mul hm (show _ ≤ 2 by omega)) (by decide))
theorem gbest_S {rows : List Bs} {m mm : Nat} (hm : m ≤ 4) (hmm : mm ≤ 2) : BrS (gbest rows m).2 mm := by
  obtain ⟨a, b, c, d, e, f⟩ := gbest_ok (rows := rows) hm
  exact ⟨a, by omega, by omega, by omega, by rw [b, c]; exact dvOf_small (by omega) (by omega)⟩
/-! ### fractions of small size -/
theorem num_den (q : Rat) : (q.num : Rat) = q * (q.den : Rat) := by
  have h : (q.num : Rat) / ((q.den : Int) : Rat) = q := by rw [← Rat.divInt_eq_div, Rat.num_divInt_den]
  have h0 : (0 : Rat) < (q.den : Rat) := by exact_mod_cast q.den_pos
  have h1 : ((q.den : Int) : Rat) = (q.den : Rat) := rfl
  rw [h1] at h
  have : (q.den : Rat) ≠ 0 := by grind
  grind
/-- times D it is whole -/
def Ent (D : Nat) (q : Rat) : Prop := ∃ z : Int, q * (D : Rat) = (z : Rat)
theorem Ent.add {D : Nat} {a b : Rat} (h : Ent D a) (k : Ent D b) : Ent D (a + b) := by
  obtain ⟨x, hx⟩ := h
  obtain ⟨y, hy⟩ := k
  exact ⟨x + y, by rw [Rat.add_mul, hx, hy, Rat.intCast_add]⟩
theorem Ent.sub {D : Nat} {a b : Rat} (h : Ent D a) (k : Ent D b) : Ent D (a - b) := by
  obtain ⟨x, hx⟩ := h
  obtain ⟨y, hy⟩ := k
  exact ⟨x - y, by rw [Rat.intCast_sub, ← hx, ← hy]; grind⟩
theorem Ent.zero (D : Nat) : Ent D 0 := ⟨0, by rw [Rat.zero_mul]; rfl⟩
theorem Ent.sum {α : Type} {D : Nat} {l : List α} {f : α → Rat} (h : ∀ a ∈ l, Ent D (f a)) : Ent D (sumR l f) := by
  induction l with
  | nil => exact Ent.zero D
  | cons a l ih => rw [sumR_cons]; exact (h a (List.mem_cons_self ..)).add (ih fun b hb => h b (List.mem_cons_of_mem _ hb))
theorem Ent.frac {D d : Nat} (hd : d ∣ D) (h0 : 0 < d) (z : Int) : Ent D ((z : Rat) / (d : Rat)) := by
  obtain ⟨k, rfl⟩ := hd
  refine ⟨z * k, ?_⟩
  have : (d : Rat) ≠ 0 := by
    have : (0 : Rat) < (d : Rat) := by exact_mod_cast h0
    grind
  push_cast
  grind
theorem Ent.den {D : Nat} {q : Rat} (hD : 0 < D) (h : Ent D q) : q.den ∣ D := by
  obtain ⟨z, hz⟩ := h
  have e : q.num * (D : Int) = z * (q.den : Int) := by
    have h1 : (q.num : Rat) = q * (q.den : Rat) := num_den q
    have h2 : ((q.num * (D : Int) : Int) : Rat) = ((z * (q.den : Int) : Int) : Rat) := by
      push_cast
      rw [h1, ← hz]
      grind
    exact_mod_cast h2
  have h2 : (q.den : Int) ∣ q.num * (D : Int) := ⟨z, by rw [e, Int.mul_comm]⟩
  have h3 : q.den ∣ q.num.natAbs * D := by
    have := Int.natAbs_dvd_natAbs.mpr h2
    rw [Int.natAbs_mul] at this
    simpa using this
  exact Nat.Coprime.dvd_of_dvd_mul_left q.reduced.symm h3
/-- a fraction whose parts are small -/
structure Fit (q : Rat) : Prop where
  ent : Ent 55296 q
  lo : -64 ≤ q
  hi : q ≤ 64
theorem Fit.den {q : Rat} (f : Fit q) : q.den ≤ 55296 := Nat.le_of_dvd (by decide) (f.ent.den (by decide))
theorem Fit.num {q : Rat} (f : Fit q) : -4000000 ≤ q.num ∧ q.num ≤ 4000000 := by
  have hd : q.den ≤ 60000 := Nat.le_trans f.den (by decide)
  have h1 : (q.num : Rat) = q * (q.den : Rat) := num_den q
  have hd0 : (0 : Rat) ≤ (q.den : Rat) := by exact_mod_cast Nat.zero_le _
  have hd1 : (q.den : Rat) ≤ ((60000 : Nat) : Rat) := by exact_mod_cast hd
  have a := Rat.mul_le_mul_of_nonneg_right f.hi hd0
  have b := Rat.mul_le_mul_of_nonneg_right f.lo hd0
  have e : ((60000 : Nat) : Rat) = 60000 := rfl
  rw [e] at hd1
  constructor
  · have : ((-4000000 : Int) : Rat) ≤ (q.num : Rat) := by
      have e : ((-4000000 : Int) : Rat) = -4000000 := rfl
      rw [h1, e]; grind
    exact Rat.intCast_le_intCast.mp this
  · have : (q.num : Rat) ≤ ((4000000 : Int) : Rat) := by
      have e : ((4000000 : Int) : Rat) = 4000000 := rfl
      rw [h1, e]; grind
    exact Rat.intCast_le_intCast.mp this
end BB
set_option autoImplicit true
set_option linter.all false
set_option maxRecDepth 100000
set_option maxHeartbeats 4000000
namespace BB
open PySem PySem.Spec PyProof.Rows L2
section
variable {P : Program} {w : World} {K : PySem.W.Frag} {mg : Str → Option Value} {base : Heap}
/-- a def of the module under its name -/
structure Dfn (K : PySem.W.Frag) (mg : Str → Option Value) (x : Str) (st : Stmt) : Prop where
  ex : ∃ f fd, FunD K x x (defArgs st) (defBody st) (defScope st) [] [] f fd ∧ mg x = some (.ref f)
/-- arguments bind one by one -/
abbrev BindN (ps : List Str) (x qual : Str) (st : Stmt) : Prop := ∀ (kV doc pm : Value) (an : Option Addr) (cdv ct : Value) (us : List Value), us.length = ps.length → bindArgs (PySem.W.fnOf x qual (defArgs st) (defBody st) (defScope st) .none kV doc pm an cdv ct) ⟨us, []⟩ = pure (ps.zip us)
theorem Dfn.cal {x : Str} {st : Stmt} {N ps : List Str} {k : Nat} {sp : Sp} (D : Dfn K mg x st) (S : FnScope N ps (defScope st)) (hb : BindN ps x x st) (len : ∀ vs H Q E, sp vs H Q E → vs.length = ps.length)
    (hbody : ∀ (f : Addr) (cdv : Value) (A : Around) (outer : List Env) (s : Shared) (H : Hp) (vs : List V) (Q : VK) (E : XK), Room k (A.deeper (envOfC x (defScope st) s.heap.objs.size f cdv)) → sp vs H Q E →
      ∃ t, PSs (cxOf CX0 P w K mg base N x (defScope st) f cdv A outer s H E).nox (defBody st) t ∧ t { nx := fun _ H' => Q .non H', rt := Q } (start N vs) H) : C8.Cal P w K mg base (k + 1) x sp [] := by
  obtain ⟨f, fd, F, g⟩ := D.ex
  refine ⟨f, fd, ps, [], F.ok S len fun cdv A outer s H vs Q E hr hsp => ?_, g, F.kp, F.bindsN hb, .nil⟩
  obtain ⟨t, h, q⟩ := hbody f cdv A outer s H vs Q E hr hsp
  exact ⟨t, h.nox, q⟩
/-- a method -/
structure Mdf (K : PySem.W.Frag) (C : Addr) (m qual : Str) (st : Stmt) : Prop where
  ex : ∃ f fd, FunD K m qual (defArgs st) (defBody st) (defScope st) [] [] f fd ∧ Meth K C m f
  cl : Cls K C
theorem Mdf.met {m qual : Str} {C : Addr} {st : Stmt} {N ps : List Str} {k : Nat} {sp : Sp} (D : Mdf K C m qual st) (S : FnScope N ps (defScope st)) (hb : BindN ps m qual st) (len : ∀ vs H Q E, sp vs H Q E → vs.length = ps.length)
    (hbody : ∀ (f : Addr) (cdv : Value) (A : Around) (outer : List Env) (s : Shared) (H : Hp) (vs : List V) (Q : VK) (E : XK), Room k (A.deeper (envOfC qual (defScope st) s.heap.objs.size f cdv)) → sp vs H Q E →
      ∃ t, PSs (cxOf CX0 P w K mg base N qual (defScope st) f cdv A outer s H E).nox (defBody st) t ∧ t { nx := fun _ H' => Q .non H', rt := Q } (start N vs) H) : C8.Met P w K mg base (k + 1) C m sp [] := by
  obtain ⟨f, fd, F, g⟩ := D.ex
  refine ⟨f, fd, ps, [], D.cl, g, F.ok S len fun cdv A outer s H vs Q E hr hsp => ?_, F.bindsN hb, .nil⟩
  obtain ⟨t, h, q⟩ := hbody f cdv A outer s H vs Q E hr hsp
  exact ⟨t, h.nox, q⟩
/-- a class with an __init__ -/
structure Cdf (K : PySem.W.Frag) (mg : Str → Option Value) (x : Str) (C : Addr) (qual : Str) (st : Stmt) : Prop where
  ex : ∃ f fd, FunD K "__init__" qual (defArgs st) (defBody st) (defScope st) [] [] f fd ∧ Mk K C f
  g : mg x = some (.ref C)
theorem Cdf.mak {x qual : Str} {C : Addr} {st : Stmt} {N ps : List Str} {k : Nat} {sp : Sp} (D : Cdf K mg x C qual st) (S : FnScope N ps (defScope st)) (hb : BindN ps "__init__" qual st) (len : ∀ vs H Q E, sp vs H Q E → vs.length = ps.length)
    (hbody : ∀ (f : Addr) (cdv : Value) (A : Around) (outer : List Env) (s : Shared) (H : Hp) (vs : List V) (Q : VK) (E : XK), Room k (A.deeper (envOfC qual (defScope st) s.heap.objs.size f cdv)) → sp vs H Q E →
      ∃ t, PSs (cxOf CX0 P w K mg base N qual (defScope st) f cdv A outer s H E).nox (defBody st) t ∧ t { nx := fun _ H' => Q .non H', rt := Q } (start N vs) H) : C8.Mak P w K mg base (k + 1) x C sp [] := by
  obtain ⟨f, fd, F, g⟩ := D.ex
  refine ⟨f, fd, ps, [], g, F.ok S len fun cdv A outer s H vs Q E hr hsp => ?_, D.g, F.bindsN hb, .nil⟩
  obtain ⟨t, h, q⟩ := hbody f cdv A outer s H vs Q E hr hsp
  exact ⟨t, h.nox, q⟩
end
/-! ### texts of bits -/
def c01 (b : Bool) : Nat := if b then 49 else 48
def sOf (x : Bs) : Str := SX.S (x.map c01)
theorem c01_inj {a b : Bool} (h : c01 a = c01 b) : a = b := by cases a <;> cases b <;> first | rfl | exact absurd h (by decide)
theorem c01_map_inj : ∀ {x y : Bs}, x.map c01 = y.map c01 → x = y
  | [], [], _ => rfl
  | [], _ :: _, h => by cases h
  | _ :: _, [], h => by cases h
  | a :: x, b :: y, h => by
    rw [List.map_cons, List.map_cons] at h
    injection h with h1 h2
    rw [c01_inj h1, c01_map_inj h2]
theorem sOf_inj {x y : Bs} (h : sOf x = sOf y) : x = y := c01_map_inj (SX.S_inj h)
theorem sOf_len (x : Bs) : (sOf x).length = x.length := by unfold sOf; rw [SX.S_len, List.length_map]
theorem sOf_app (x y : Bs) : sOf x ++ sOf y = sOf (x ++ y) := by unfold sOf; rw [SX.S_cat, List.map_append]
theorem s0 : ("0" : Str) = sOf [false] := by decide +kernel
theorem s1 : ("1" : Str) = sOf [true] := by decide +kernel
theorem sE : ("" : Str) = sOf [] := by decide +kernel
abbrev vS (x : Bs) : V := .str (sOf x)
theorem dec_vS (x y : Bs) : decide (vS x = vS y) = decide (x = y) := by
  by_cases e : x = y
  · rw [e]; simp
  · rw [decide_eq_false e, decide_eq_false]
    intro h
    exact e (sOf_inj (V.str.inj h))
/-! ### heaps -/
theorem _root_.L2.Same.tup {K : PySem.W.Frag} {H H' : Hp} {a : Addr} {xs : List V} (e : Same H H') (h : SqT K H a xs) : SqT K H' a xs := by
  rcases h with (h | ⟨o, h⟩) | h
  · exact .inl (.inl (e _ _ h))
  · exact .inl (.inr ⟨o, e _ _ h⟩)
  · exact .inr h
theorem _root_.L2.Same.new {H : Hp} {p : Addr} {o : HO} (h : H p = none) : Same H (upd H p o) := fun b u q => by rw [upd_ne (ne_of_none q h)]; exact q
/-- an object that the base does not know may change -/
theorem _root_.L2.Same.mut {H0 H : Hp} {p : Addr} {o : HO} (s : Same H0 H) (h : H0 p = none) : Same H0 (upd H p o) := fun b u q => by rw [upd_ne (ne_of_none q h)]; exact s b u q
theorem _root_.L2.Same.add {H0 H : Hp} {p : Addr} {o : HO} (s : Same H0 H) (h : H p = none) : Same H0 (upd H p o) := s.trans (L2.Same.new h)
theorem szl {n : Nat} (h : n ≤ 1000000 := by omega) : n ≤ sizeLine := Nat.le_trans h (by decide)
theorem szlt {n : Nat} (h : n ≤ 1000000 := by omega) : n < sizeLine := Nat.lt_of_le_of_lt h (by decide)

/-- the built-ins that the text calls are still built-in -/
structure Bi (mg : Str → Option Value) : Prop where
  range : mg "range" = none
  len : mg "len" = none
  isinstance : mg "isinstance" = none
  int : mg "int" = none
  str : mg "str" = none
  tuple : mg "tuple" = none
  bool : mg "bool" = none
  list : mg "list" = none
  all : mg "all" = none
  abs : mg "abs" = none
  max : mg "max" = none
  reversed : mg "reversed" = none
  sorted : mg "sorted" = none
/-- the module's constants -/
structure Gi (K : PySem.W.Frag) (mg : Str → Option Value) : Prop where
  g_MOST_LENGTH : ∃ u, mg "MOST_LENGTH" = some u ∧ RelV (.int 40) u
  g_MOST_BIT : ∃ u, mg "MOST_BIT" = some u ∧ RelV (.int 9999) u
  g_MOST_TOSSED : ∃ u, mg "MOST_TOSSED" = some u ∧ RelV (.int 64) u
  g_MOST_DEPTH : ∃ u, mg "MOST_DEPTH" = some u ∧ RelV (.int 60) u
  g_MOST_WITHIN : ∃ u, mg "MOST_WITHIN" = some u ∧ RelV (.int 2000) u
  g_MOST_DEEP : ∃ u, mg "MOST_DEEP" = some u ∧ RelV (.int 8) u
  g_NOUGHT : ∃ u, mg "NOUGHT" = some u ∧ RelV (.ref (He.ga K "NOUGHT")) u
  t_NOUGHT : ∀ H, SqT K H (He.ga K "NOUGHT") [.int 0, .int 1]
  g_PLAIN_WORDS : ∃ u, mg "PLAIN_WORDS" = some u ∧ RelV (.ref (He.ga K "PLAIN_WORDS")) u
  t_PLAIN_WORDS : ∀ H, SqT K H (He.ga K "PLAIN_WORDS") [.str "say", .str "toss", .str "look", .str "ask"]
  g_OnetimeWorld : ∃ u, mg "OnetimeWorld" = some u ∧ RelV (.ref (He.ga K "OnetimeWorld")) u
  g_RUNS : ∃ u, mg "RUNS" = some u ∧ RelV (.ref (He.ga K "RUNS")) u
  g_LAYERS : ∃ u, mg "LAYERS" = some u ∧ RelV (.ref (He.ga K "LAYERS")) u
  g_gcd : mg "gcd" = some (.builtin "math.gcd")
end BB
set_option maxHeartbeats 4000000
namespace BB
open PySem PySem.Spec PyProof.Rows L2
/-! ### tuples stay -/
def Tm (K : PySem.W.Frag) (H H' : Hp) : Prop := ∀ a xs, SqT K H a xs → SqT K H' a xs
theorem Tm.refl {K : PySem.W.Frag} (H : Hp) : Tm K H H := fun _ _ h => h
theorem Tm.trans {K : PySem.W.Frag} {H H1 H2 : Hp} (a : Tm K H H1) (b : Tm K H1 H2) : Tm K H H2 := fun c xs h => b c xs (a c xs h)
theorem _root_.L2.Same.tm {K : PySem.W.Frag} {H H' : Hp} (s : Same H H') : Tm K H H' := fun _ _ h => s.tup h
/-- a thing that is no tuple and not locked changes -/
def NoT : Option HO → Prop
  | some (.tup _) => False
  | some (.frz _ _) => False
  | _ => True
theorem Tm.upd {K : PySem.W.Frag} {H : Hp} {p : Addr} {o : HO} (h : NoT (H p)) : Tm K H (L2.upd H p o) := fun a xs q => by
  rcases q with (q | ⟨u, q⟩) | q
  · refine .inl (.inl ?_)
    rw [upd_ne]
    · exact q
    · intro e; subst e; rw [q] at h; exact h
  · refine .inl (.inr ⟨u, ?_⟩)
    rw [upd_ne]
    · exact q
    · intro e; subst e; rw [q] at h; exact h
  · exact .inr q
theorem Tm.lst {K : PySem.W.Frag} {H : Hp} {p : Addr} {o : HO} {xs : List V} (h : H p = some (.lst xs)) : Tm K H (L2.upd H p o) := Tm.upd (by rw [h]; trivial)
theorem Tm.new {K : PySem.W.Frag} {H : Hp} {p : Addr} {o : HO} (h : H p = none) : Tm K H (L2.upd H p o) := Tm.upd (by rw [h]; trivial)
/-! ### what is walked without a change -/
/-- for range: the item of the turn is below n -/
structure WkN (J : It) (H1 : Hp) (n : Nat) (item : Nat → V) : Prop where
  go : ∀ i H, i < n → Same H1 H → J.go i H
  yld : ∀ i H x H', i < n → Same H1 H → J.yld i H x H' → H' = H ∧ x = item i
  stop : ∀ H, Same H1 H → J.stop n H
theorem wn_list {K : PySem.W.Frag} {H : Hp} {a : Addr} {xs : List V} (h : SqL K H a xs) : WkN (Itl K a) H xs.length (fun i => xs.getD i .non) where
  go := fun i H' hi s => ⟨xs, xs[i], s.seq h, by simp [hi]⟩
  yld := fun i H' x H'' hi s y => by
    obtain ⟨e, y⟩ := y
    refine ⟨e, ?_⟩
    have := y xs (s.seq h)
    rw [List.getD_eq_getElem?_getD, this]; rfl
  stop := fun H' s => ⟨xs, s.seq h, Nat.le_refl _⟩
theorem wn_tup {K : PySem.W.Frag} {H : Hp} {a : Addr} {xs : List V} (h : SqT K H a xs) : WkN (Itt K a) H xs.length (fun i => xs.getD i .non) where
  go := fun i H' hi s => ⟨xs, xs[i], s.tup h, by simp [hi]⟩
  yld := fun i H' x H'' hi s y => by
    obtain ⟨e, y⟩ := y
    refine ⟨e, ?_⟩
    have := y xs (s.tup h)
    rw [List.getD_eq_getElem?_getD, this]; rfl
  stop := fun H' s => ⟨xs, s.tup h, Nat.le_refl _⟩
theorem wn_range {H : Hp} {n : Nat} : WkN (Itr 0 n) H n (fun i => .int i) where
  go := fun i H' hi s => hi
  yld := fun i H' x H'' hi s y => by
    obtain ⟨e, rfl⟩ := y
    exact ⟨e, by simp⟩
  stop := fun H' s => Nat.le_refl n
theorem sOf_at (x : Bs) (i : Nat) : (sOf x).cps[i]? = (x[i]?).map c01 := by
  show ((x.map c01).toArray)[i]? = _
  simp
theorem wn_str {H : Hp} {x : Bs} : WkN (Its (sOf x)) H x.length (fun i => vS [x.getD i false]) where
  go := fun i H' hi s => by
    show i < (sOf x).cps.size
    simpa [sOf, SX.S] using hi
  yld := fun i H' v H'' hi s y => by
    obtain ⟨e, c, hc, rfl⟩ := y
    refine ⟨e, ?_⟩
    rw [sOf_at] at hc
    rw [List.getElem?_eq_getElem hi] at hc
    have : c01 x[i] = c := Option.some.inj hc
    rw [← this, List.getD_eq_getElem?_getD, List.getElem?_eq_getElem hi]; rfl
  stop := fun H' s => by
    show (sOf x).cps.size ≤ x.length
    simp [sOf, SX.S]
/-- [elt for x in ..] -/
theorem lcN (K : PySem.W.Frag) {J : It} {H1 : Hp} {n : Nat} {item : Nat → V} {k : Nat} {te : TE} {σ : L2.St} {D : Addr} {Qd : Hp → Prop} (W : WkN J H1 n item) (hD : H1 D = none) (hn : n ≤ 1000000) (R : Nat → V → Hp → Prop)
    (mono : ∀ i y H H', Tm K H H' → R i y H → R i y H')
    (hs : ∀ i H, i < n → Same H1 H → ∀ Q : VK, (∀ y H', Same H H' → R i y H' → Q y H') → te ((σ.set k none).set k (some (item i))) H Q)
    (hd : ∀ H ys, Same H1 H → H D = some (.lst ys) → ys.length = n → (∀ i y, ys[i]? = some y → R i y H) → Qd H) :
    ∃ W : Nat → Nat → Hp → Prop, (∃ m, W 0 m (upd H1 D (.lst []))) ∧ ∀ i m H, W i m H →
      (J.stop i H ∧ Qd H) ∨ (J.go i H ∧ ∃ Nx : Hp → Prop, (∀ H', Nx H' → ∃ m', m' < m ∧ W (i + 1) m' H') ∧ ∀ x H', J.yld i H x H' → gName k x (wipe σ [k]) H' fun σ2 H2 => wipe σ2 [k] = wipe σ [k] ∧ tYes σ2 H2 fun b H3 =>
        if b = true then te σ2 H3 fun y H4 => ∃ acc, H4 D = some (.lst acc) ∧ acc.length < sizeLine ∧ Nx (upd H4 D (.lst (acc ++ [y]))) else Nx H3) := by
  refine ⟨fun i m H => m = n - i ∧ i ≤ n ∧ Same H1 H ∧ ∃ ys, H D = some (.lst ys) ∧ ys.length = i ∧ ∀ j y, ys[j]? = some y → R j y H, ⟨n, by simp, Nat.zero_le _, Same.new hD, [], upd_same, rfl, fun j y e => by simp at e⟩, ?_⟩
  rintro i m H ⟨rfl, hi, s, ys, hL, hl, hR⟩
  by_cases hlt : i < n
  · refine .inr ⟨W.go i H hlt s, fun H' => i + 1 ≤ n ∧ Same H1 H' ∧ ∃ ys, H' D = some (.lst ys) ∧ ys.length = i + 1 ∧ ∀ j y, ys[j]? = some y → R j y H', fun H' q => ⟨n - (i + 1), by omega, rfl, q⟩, fun x H' y => ?_⟩
    obtain ⟨e, hx⟩ := W.yld i H x H' hlt s y
    subst e hx
    refine ⟨?_, ?_⟩
    · show (((σ.set k none).set k (some (item i))).set k none) = σ.set k none
      rw [List.set_set, List.set_set]
    · unfold tYes
      dsimp only
      rw [if_pos rfl]
      refine hs i H' hlt s _ fun y H2 s' hy => ?_
      have tm : Tm K H2 (upd H2 D (.lst (ys ++ [y]))) := Tm.lst (s' _ _ hL)
      refine ⟨ys, s' _ _ hL, szlt (by omega), by omega, L2.Same.mut (s.trans s') hD, ys ++ [y], upd_same, by simp [hl], fun j z e => ?_⟩
      by_cases hj : j < ys.length
      · rw [List.getElem?_append_left hj] at e
        exact mono j z _ _ (s'.tm.trans tm) (hR j z e)
      · have hj' : j = ys.length := by
          have := (List.getElem?_eq_some_iff.mp e).1
          simp at this; omega
        subst hj'
        rw [List.getElem?_append_right (Nat.le_refl _)] at e
        simp at e
        subst e
        rw [hl]
        exact mono _ _ _ _ tm hy
  · have e : i = n := by omega
    subst e
    exact .inl ⟨W.stop H s, hd H ys s hL hl hR⟩
/-- .. where the element is a value of the turn -/
theorem lcV (K : PySem.W.Frag) {J : It} {H1 : Hp} {n : Nat} {item : Nat → V} {k : Nat} {te : TE} {σ : L2.St} {D : Addr} {Qd : Hp → Prop} (W : WkN J H1 n item) (hD : H1 D = none) (hn : n ≤ 1000000) (f : Nat → V)
    (hs : ∀ i H, i < n → Same H1 H → ∀ Q : VK, (∀ H', Same H H' → Q (f i) H') → te ((σ.set k none).set k (some (item i))) H Q)
    (hd : ∀ H, Same H1 H → H D = some (.lst ((List.range n).map f)) → Qd H) :
    ∃ W : Nat → Nat → Hp → Prop, (∃ m, W 0 m (upd H1 D (.lst []))) ∧ ∀ i m H, W i m H →
      (J.stop i H ∧ Qd H) ∨ (J.go i H ∧ ∃ Nx : Hp → Prop, (∀ H', Nx H' → ∃ m', m' < m ∧ W (i + 1) m' H') ∧ ∀ x H', J.yld i H x H' → gName k x (wipe σ [k]) H' fun σ2 H2 => wipe σ2 [k] = wipe σ [k] ∧ tYes σ2 H2 fun b H3 =>
        if b = true then te σ2 H3 fun y H4 => ∃ acc, H4 D = some (.lst acc) ∧ acc.length < sizeLine ∧ Nx (upd H4 D (.lst (acc ++ [y]))) else Nx H3) :=
  lcN K W hD hn (fun i y _ => y = f i) (fun _ _ _ _ _ h => h) (fun i H hi s Q q => hs i H hi s Q fun H' s' => q _ _ s' rfl) fun H ys s hL hl hR => hd H s (by
    rw [hL]
    congr 2
    apply List.ext_getElem?
    intro i
    by_cases h : i < n
    · rw [List.getElem?_map, List.getElem?_range h, List.getElem?_eq_getElem (by omega)]
      exact congrArg some (hR i _ (List.getElem?_eq_getElem (by omega)))
    · rw [List.getElem?_eq_none (by omega), List.getElem?_eq_none (by simp; omega)])
/-- [x for x in .. if test] -/
theorem lcF {J : It} {H1 : Hp} {xs : List V} {k : Nat} {tt : TT} {σ : L2.St} {D : Addr} {Qd : Hp → Prop} (W : WkN J H1 xs.length (fun i => xs.getD i .non)) (hD : H1 D = none) (hn : xs.length ≤ 1000000) (hk : k < σ.length) (keep : V → Bool)
    (hs : ∀ x H, x ∈ xs → Same H1 H → ∀ Q : Bool → Hp → Prop, (∀ H', Same H H' → Q (keep x) H') → tt ((σ.set k none).set k (some x)) H Q)
    (hd : ∀ H, Same H1 H → H D = some (.lst (xs.filter keep)) → Qd H) :
    ∃ W : Nat → Nat → Hp → Prop, (∃ m, W 0 m (upd H1 D (.lst []))) ∧ ∀ i m H, W i m H →
      (J.stop i H ∧ Qd H) ∨ (J.go i H ∧ ∃ Nx : Hp → Prop, (∀ H', Nx H' → ∃ m', m' < m ∧ W (i + 1) m' H') ∧ ∀ x H', J.yld i H x H' → gName k x (wipe σ [k]) H' fun σ2 H2 => wipe σ2 [k] = wipe σ [k] ∧ tt σ2 H2 fun b H3 =>
        if b = true then tVar k σ2 H3 fun y H4 => ∃ acc, H4 D = some (.lst acc) ∧ acc.length < sizeLine ∧ Nx (upd H4 D (.lst (acc ++ [y]))) else Nx H3) := by
  refine ⟨fun i m H => m = xs.length - i ∧ i ≤ xs.length ∧ Same H1 H ∧ H D = some (.lst ((xs.take i).filter keep)), ⟨xs.length, by simp, Nat.zero_le _, Same.new hD, upd_same⟩, ?_⟩
  rintro i m H ⟨rfl, hi, s, hL⟩
  by_cases hlt : i < xs.length
  · refine .inr ⟨W.go i H hlt s, fun H' => i + 1 ≤ xs.length ∧ Same H1 H' ∧ H' D = some (.lst ((xs.take (i + 1)).filter keep)), fun H' q => ⟨xs.length - (i + 1), by omega, rfl, q⟩, fun x H' y => ?_⟩
    obtain ⟨e, hx⟩ := W.yld i H x H' hlt s y
    have hxi : xs.getD i .non = xs[i] := by rw [List.getD_eq_getElem?_getD, List.getElem?_eq_getElem hlt]; rfl
    subst e hx
    refine ⟨?_, ?_⟩
    · show (((σ.set k none).set k _).set k none) = σ.set k none
      rw [List.set_set, List.set_set]
    · refine hs _ H' (by rw [hxi]; exact List.getElem_mem hlt) s _ fun H2 s' => ?_
      have ht : xs.take (i + 1) = xs.take i ++ [xs.getD i .non] := by rw [hxi, List.take_succ_eq_append_getElem hlt]
      refine ite2 (fun c => ?_) (fun c => ?_)
      · refine ⟨xs.getD i .non, ?_, _, s' _ _ hL, ?_, by omega, L2.Same.mut (s.trans s') hD, ?_⟩
        · rw [show wipe σ [k] = σ.set k none from rfl, List.set_set, List.getElem?_set_self hk]
        · exact Nat.lt_of_le_of_lt (show _ ≤ 1000000 from Nat.le_trans (List.length_filter_le _ _) (by rw [List.length_take]; omega)) (by decide)
        · rw [upd_same, ht, List.filter_append, List.filter_cons, if_pos c]; rfl
      · refine ⟨by omega, s.trans s', ?_⟩
        rw [s' _ _ hL, ht, List.filter_append, List.filter_cons, if_neg c]
        simp
  · have e : i = xs.length := by omega
    subst e
    exact .inl ⟨W.stop H s, hd H s (by rw [hL, List.take_length])⟩
/-- all truths of a list -/
theorem all_true {l : List Bool} (h : ∀ b ∈ l, b = true) : l.all id = true := List.all_eq_true.mpr h
/-! ### classes of what is looked at -/
theorem tyT {K : PySem.W.Frag} {H : Hp} {a : Addr} {xs : List V} (h : SqT K H a xs) : TyX K H (.ref a) (.type "tuple") := by
  rcases h with (h | ⟨o, h⟩) | ⟨o, its, n, h, c, _⟩
  · exact .base (.tup h)
  · exact .fTuple h
  · exact .kTuple h c

theorem k_int_int {K : PySem.W.Frag} : PySem.W.kitOne K (.type "int") (.type "int") = some true := kit_ty (by decide +kernel)
theorem k_int_bool {K : PySem.W.Frag} : PySem.W.kitOne K (.type "int") (.type "bool") = some false := kit_ty (by decide +kernel)
theorem k_int_str {K : PySem.W.Frag} : PySem.W.kitOne K (.type "int") (.type "str") = some false := kit_ty (by decide +kernel)
theorem k_str_str {K : PySem.W.Frag} : PySem.W.kitOne K (.type "str") (.type "str") = some true := kit_ty (by decide +kernel)
theorem k_tup_tup {K : PySem.W.Frag} : PySem.W.kitOne K (.type "tuple") (.type "tuple") = some true := kit_ty (by decide +kernel)
/-- a for loop over what stands still -/
theorem forW {J : It} {H1 : Hp} {n : Nat} {item : Nat → V} (W : WkN J H1 n item) {g : TG} {tb : TS} {D : Ends} {σ : L2.St} {H : Hp} (Pv : Nat → L2.St → Hp → Prop) (h0 : Pv 0 σ H) (hsame : ∀ i σ H, Pv i σ H → Same H1 H)
    (hs : ∀ i σ H, i < n → Pv i σ H → g (item i) σ H fun σ2 H2 => tb { D with nx := Pv (i + 1), ct := Pv (i + 1), bk := D.nx } σ2 H2) (hd : ∀ σ H, Pv n σ H → D.nx σ H) :
    ∃ W : Nat → Nat → L2.St → Hp → Prop, (∃ m, W 0 m σ H) ∧ ∀ i m σ H, W i m σ H →
      (J.stop i H ∧ D.nx σ H) ∨ (J.go i H ∧ ∃ N : L2.St → Hp → Prop, (∀ σ' H', N σ' H' → ∃ m', m' < m ∧ W (i + 1) m' σ' H') ∧ ∀ x H', J.yld i H x H' → g x σ H' fun σ2 H2 => tb { D with nx := N, ct := N, bk := D.nx } σ2 H2) := by
  refine ⟨fun i m σ H => m = n - i ∧ i ≤ n ∧ Pv i σ H, ⟨n, by simp, Nat.zero_le _, h0⟩, ?_⟩
  rintro i m σ H ⟨rfl, hi, p⟩
  by_cases hlt : i < n
  · refine .inr ⟨W.go i H hlt (hsame i σ H p), Pv (i + 1), fun σ' H' p' => ⟨n - (i + 1), by omega, rfl, hlt, p'⟩, fun x H' y => ?_⟩
    obtain ⟨e, hx⟩ := W.yld i H x H' hlt (hsame i σ H p) y
    subst e hx
    exact hs i σ _ hlt p
  · have e : i = n := by omega
    subst e
    exact .inl ⟨W.stop H (hsame _ σ H p), hd σ H p⟩
theorem range_getD {n i : Nat} {α : Type} {f : Nat → α} {d : α} (h : i < n) : ((List.range n).map f).getD i d = f i := by
  rw [List.getD_eq_getElem?_getD, List.getElem?_map, List.getElem?_range h]; rfl
theorem map_getD {α β : Type} {xs : List α} {f : α → β} {i : Nat} {d : β} (h : i < xs.length) : (xs.map f).getD i d = f (xs[i]) := by
  rw [List.getD_eq_getElem?_getD, List.getElem?_map, List.getElem?_eq_getElem h]; rfl
def rTupOf (K : PySem.W.Frag) : List V → Hp → VK → Prop := fun xs H Q => ∃ p ys, xs = [.ref p] ∧ ((SqL K H p ys ∧ ∀ l, H l = none → Q (.ref l) (upd H l (.tup ys))) ∨ (SqT K H p ys ∧ Q (.ref p) H))
/-- the scope of a statement's list comprehension -/
def lcScope : Stmt → Scope
  | .Assign _ (.ListComp _ _ sc _) _ => sc
  | _ => { kind := .function, names := [], isGenerator := false, isCoroutine := false }
theorem lookup_re {env : Env} {y : Str} : ∀ {names : List (Str × NameKind)}, (names.lookup y = some .cell → (names.map fun (n, k) => if (k == NameKind.free && env.scope.kind == .function && env.kindOf n == some .cell) then (n, NameKind.cell) else (n, k)).lookup y = some .cell) ∧
    (names.lookup y = some .free → (names.map fun (n, k) => if (k == NameKind.free && env.scope.kind == .function && env.kindOf n == some .cell) then (n, NameKind.cell) else (n, k)).lookup y = some .cell ∨ (names.map fun (n, k) => if (k == NameKind.free && env.scope.kind == .function && env.kindOf n == some .cell) then (n, NameKind.cell) else (n, k)).lookup y = some .free)
  | [] => ⟨fun h => by simp at h, fun h => by simp at h⟩
  | (n, k) :: r => by
    have ih := lookup_re (env := env) (y := y) (names := r)
    by_cases e : y = n
    · subst e
      refine ⟨fun h => ?_, fun h => ?_⟩
      · rw [List.lookup_cons_self] at h
        cases h
        rw [List.map_cons]
        simp
      · rw [List.lookup_cons_self] at h
        cases h
        rw [List.map_cons]
        dsimp only
        split
        · exact .inl List.lookup_cons_self
        · exact .inr List.lookup_cons_self
    · have e' : (y == n) = false := by simpa using e
      have hk : ∀ k', List.lookup y ((n, k') :: r) = List.lookup y r := fun k' => by rw [List.lookup_cons, e']
      rw [hk]
      have hm : ∀ k' (l : List (Str × NameKind)), List.lookup y ((n, k') :: l) = List.lookup y l := fun k' l => by rw [List.lookup_cons, e']
      rw [List.map_cons]
      dsimp only
      split
      · rw [hm]; exact ih
      · rw [hm]; exact ih
theorem blkOk_re {N : List Str} {sc scope : Scope} {own : List (Str × Nat)} {env : Env} (h : BlkOk N sc scope own) : BlkOk N (relabel sc env) scope own :=
  ⟨h.kind, h.uniq, h.ix, fun y hy e => by
    rcases h.free y hy e with q | q
    · exact .inl (lookup_re.1 q)
    · exact lookup_re.2 q, h.own⟩
end BB
set_option maxHeartbeats 4000000
namespace BB
open PySem PySem.Spec PyProof.Rows L2
theorem shl1 (n : Nat) : (1 : Int) * 2 ^ ((n : Int).toNat) = ((2 ^ n : Nat) : Int) := by rw [Int.toNat_natCast, Int.one_mul]; simp
theorem bitsOf_front : ∀ (i v : Nat), bitsOf (i + 1) v = (v / 2 ^ i % 2 == 1) :: bitsOf i v
  | 0, v => by simp [bitsOf]
  | i + 1, v => by
    rw [bitsOf, bitsOf_front i (v / 2), bitsOf, List.cons_append, Nat.div_div_eq_div_mul, Nat.mul_comm 2, ← Nat.pow_succ]
def spBits : Sp := fun vs H Q _ => ∃ n v : Nat, vs = [.int n, .int v] ∧ n ≤ 1000 ∧ ∀ H', Same H H' → Q (vS (bitsOf n v)) H'
theorem joinL_one : ∀ x : Bs, TL.joinL [] (x.map fun b => [c01 b]) = x.map c01
  | [] => rfl
  | [b] => rfl
  | b :: c :: x => by
    have ih := joinL_one (c :: x)
    simp only [List.map_cons] at ih ⊢
    show [c01 b] ++ [] ++ TL.joinL [] _ = _
    rw [ih]; rfl
theorem join_bits (x : Bs) : Txt.join (sOf []) (x.map fun b => sOf [b]) = sOf x := by
  have e : (x.map fun b => sOf [b]) = (x.map fun b => [c01 b]).map SX.S := by rw [List.map_map]; rfl
  rw [e]
  refine (SX.join_S [] _).trans ?_
  rw [joinL_one]; rfl
theorem sumlen : ∀ x : Bs, ((x.map fun b => sOf [b]).map (·.length)).sum = x.length
  | [] => rfl
  | b :: x => by
    rw [List.map_cons, List.map_cons, List.sum_cons, sumlen x, sOf_len, List.length_cons, List.length_cons, List.length_nil]; omega
section
variable {P : Program} {w : World} {K : PySem.W.Frag} {mg : Str → Option Value} {base : Heap}
theorem scBits : FnScope ["length", "number", "signs", "_"] ["length", "number"] (defScope sBits) := ⟨rfl, rfl, rfl, by decide +kernel, rfl, by decide +kernel, by decide +kernel⟩
theorem ok_bits (B : Bi mg) (D : Dfn K mg "bits" sBits) : C8.Cal P w K mg base 1 "bits" spBits [] := by
  refine D.cal scBits (fun _ _ _ _ _ _ us hl => match us, hl with | [_, _], _ => rfl) (fun vs H Q E h => ?_) (fun f cdv A outer s H vs Q E hr h => ?_)
  · obtain ⟨n, v, rfl, _⟩ := h
    rfl
  obtain ⟨n, v, rfl, hn, hQ⟩ := h
  refine ⟨_, pss_cons (ps_set (i := 2) scBits.nd rfl (.inl rfl) (pe_lst pa_nil))
    (pss_cons (ps_for PassesOwn.never rfl (pi_range1 rfl B.range (pa_cons (pv 0) pa_nil)) (pg_name (i := 3) scBits.nd rfl (.inl rfl))
      (pss_cons (ps_expr (pe_bm PySem.F.plainAttrs_list PySem.F.slot_list_append PySem.F.type_list_append mt_append (pv 2) (pa_cons (pe_ifExp (pt_cmpR op_eq (pe_op op_mod (pv 1) pe_int) pe_int (nomark _)) pe_str pe_str) pa_nil)))
      (pss_one (ps_set (i := 1) scBits.nd rfl (.inl rfl) (pe_op op_fdiv (pv 1) pe_int)))))
    (pss_one (ps_ret (pe_join pe_str (pe_revL (pv 2)))))), ?_⟩
  refine ⟨Nat.zero_le _, fun p hp => ?_⟩
  refine ⟨_, rfl, n, rfl, by omega, by omega, for_range (n := n) (fun i σ H' => ∃ vn : Option V, σ = [some (.int n), some (.int (v / 2 ^ i : Nat)), some (.ref p), vn] ∧ Same H H' ∧ H' p = some (.lst ((bitsOf i v).reverse.map fun b => vS [b])))
    ⟨none, by simp; rfl, Same.new hp, upd_same⟩ ?_ ?_⟩
  · rintro i σ H' hi ⟨vn, rfl, hs, hL⟩
    refine ⟨_, rfl, .inl ⟨rfl, _, .inl (.inl hL)⟩, ?_⟩
    refine ⟨_, rfl, _, _, rfl, rfl, (by show (0 : Int) < 2; decide), rfl, _, rfl, ?_⟩
    have fin : ∀ b : Bool, (v / 2 ^ i % 2 == 1) = b → ∃ l xs y, V.ref p = .ref l ∧ [vS [b]] = [y] ∧ H' l = some (.lst xs) ∧ xs.length < sizeLine ∧
        (∃ v', ([some (V.int n), some (V.int (v / 2 ^ i : Nat)), some (V.ref p), some (V.int (0 + i))] : L2.St)[1]? = some (some v') ∧ ∃ i' j', v' = .int i' ∧ (V.int 2) = .int j' ∧ CDiv i' j' ∧
          ∃ vn, (([some (V.int n), some (V.int (v / 2 ^ i : Nat)), some (V.ref p), some (V.int (0 + i))] : L2.St).set 1 (some (V.int (i' / j')))) = [some (.int n), some (.int (v / 2 ^ (i + 1) : Nat)), some (.ref p), vn] ∧
            Same H (upd H' l (.lst (xs ++ [y]))) ∧ (upd H' l (.lst (xs ++ [y]))) p = some (.lst ((bitsOf (i + 1) v).reverse.map fun b => vS [b]))) := by
      intro b hb
      refine ⟨p, _, _, rfl, rfl, hL, ?_, _, rfl, _, _, rfl, rfl, ?_, some (V.int (0 + i)), ?_, hs.mut hp, ?_⟩
      · rw [List.length_map, List.length_reverse, bitsOf_length]; exact szlt
      · exact ⟨by decide, by decide⟩
      · rw [Nat.pow_succ, ← Nat.div_div_eq_div_mul]
        rfl
      · rw [upd_same, bitsOf_front, hb]
        simp
    refine ite2 (fun c => ?_) (fun c => ?_)
    · have c1 := V.int.inj (of_decide_eq_true c)
      have := fin true (by simp; omega)
      rw [show (V.str "1") = vS [true] from congrArg V.str s1]
      exact this
    · have c1 : ¬ _ := fun q => of_decide_eq_false (Bool.eq_false_iff.mpr c) (congrArg V.int q)
      have := fin false (by simp; omega)
      rw [show (V.str "0") = vS [false] from congrArg V.str s0]
      exact this
  · rintro σ H' ⟨vn, rfl, hs, hL⟩
    refine ⟨⟨_, rfl⟩, _, rfl, p, _, rfl, .inl (.inl hL), fun q hq => ?_⟩
    refine ⟨_, q, (bitsOf n v).map (fun b => sOf [b]), rfl, rfl, .inl (.inl (.inl ?_)), ?_, ?_⟩
    · rw [upd_same, List.map_reverse, List.reverse_reverse, List.map_map]; rfl
    · rw [sumlen, List.length_map, bitsOf_length, sE, sOf_len, List.length_nil]
      omega
    · rw [sE, join_bits]
      exact hQ _ (hs.add hq)
end
end BB
set_option maxHeartbeats 4000000
namespace BB
open PySem PySem.Spec PyProof.Rows L2
theorem sc_number_of : FnScope ["string", "number", "sign"] ["string"] (defScope s_number_of) := ⟨rfl, rfl, rfl, by decide +kernel, rfl, by decide +kernel, by decide +kernel⟩
theorem sc_is_number : FnScope ["value", "least", "most"] ["value", "least", "most"] (defScope s_is_number) := ⟨rfl, rfl, rfl, by decide +kernel, rfl, by decide +kernel, by decide +kernel⟩
theorem sc_is_bits : FnScope ["value", "length", "sign"] ["value", "length"] (defScope s_is_bits) := ⟨rfl, rfl, rfl, by decide +kernel, rfl, by decide +kernel, by decide +kernel⟩
theorem sc_is_row : FnScope ["value", "many", "length", "one"] ["value", "many", "length"] (defScope s_is_row) := ⟨rfl, rfl, rfl, by decide +kernel, rfl, by decide +kernel, by decide +kernel⟩
theorem sc_half : FnScope ["pair", "bit", "middle"] ["pair", "bit"] (defScope s_half) := ⟨rfl, rfl, rfl, by decide +kernel, rfl, by decide +kernel, by decide +kernel⟩
def sp_number_of : Sp := fun vs H Q _ => ∃ x : Bs, vs = [vS x] ∧ x.length ≤ 1000 ∧ Q (.int (numOf x)) H
def sp_is_number : Sp := fun vs H Q _ => ∃ i a b : Int, vs = [.int i, .int a, .int b] ∧ Q (.bl (decide (a ≤ i) && decide (i ≤ b))) H
def sp_is_bits : Sp := fun vs H Q _ => (∃ (x : Bs) (n : Nat), vs = [vS x, .int n] ∧ x.length ≤ 1000 ∧ ∀ H', Same H H' → Q (.bl (decide (x.length = n))) H') ∨ (∃ i n : Int, vs = [.int i, .int n] ∧ Q (.bl false) H)
def sp_is_row (K : PySem.W.Frag) : Sp := fun vs H Q _ => ∃ (a : Addr) (xs : List Bs) (m : Nat), vs = [.ref a, .int (xs.length : Nat), .int m] ∧ SqT K H a (xs.map vS) ∧ xs.length ≤ 1000 ∧ m ≤ 1000 ∧ (∀ x ∈ xs, x.length = m) ∧ ∀ H', Same H H' → Q (.bl true) H'
def sp_half : Sp := fun vs H Q _ => ∃ (y : Bs) (b : Bool), vs = [vS y, vS [b]] ∧ y.length ≤ 1000 ∧ Q (vS (halfOf y b)) H
theorem in01 (b : Bool) : decide (c01 b ∈ ("01" : Str).cps.toList) = true := by cases b <;> decide +kernel
theorem intText_c (b : Bool) : PySem.intText? (sOf [b]) = some (if b then 1 else 0) := by
  cases b <;> decide +kernel
theorem cut_sOf (x : Bs) (lo hi : Option Int) : cutS (sOf x) lo hi = sOf ((x.drop (HT.sIx x.length 0 lo)).take (HT.sIx x.length x.length hi - HT.sIx x.length 0 lo)) := by
  unfold cutS
  rw [sOf_len]
  unfold sOf SX.S
  simp
section
variable {P : Program} {w : World} {K : PySem.W.Frag} {mg : Str → Option Value} {base : Heap}
theorem ok_number_of (B : Bi mg) (G : Gi K mg) (D : Dfn K mg "number_of" s_number_of) : C8.Cal P w K mg base 1 "number_of" (sp_number_of) [] := by
  refine D.cal sc_number_of (fun _ _ _ _ _ _ us hl => match us, hl with | [_], _ => rfl) (fun vs H Q E h => ?_) (fun f cdv A outer s H vs Q E hr h => ?_)
  · obtain ⟨x, rfl, _⟩ := h
    rfl
  obtain ⟨x, rfl, hx, hQ⟩ := h
  refine ⟨_, (pss_cons (ps_set (i := 1) sc_number_of.nd rfl (Or.inl rfl) pe_int)
    (pss_cons (ps_for PassesOwn.never rfl (pi_str (pv 0)) (pg_name (i := 2) sc_number_of.nd rfl (Or.inl rfl)) (pss_one (ps_set (i := 1) sc_number_of.nd rfl (Or.inl rfl) (pe_op op_add (pe_op op_mul (pv 1) pe_int) (pe_callTy call_int_str (by rfl) B.int (by decide +kernel) (pa_cons (pv 2) pa_nil))))))
    (pss_one (ps_ret (pv 1))))), ?_⟩
  refine ⟨_, rfl, _, rfl, forW wn_str (fun i σ H' => ∃ sg : Option V, σ = [some (vS x), some (.int (numOf (x.take i) : Nat)), sg] ∧ H' = H) ⟨none, rfl, rfl⟩ (fun i σ H' ⟨_, _, e⟩ => by rw [e]; exact Same.refl _) ?_ ?_⟩
  · rintro i σ H' hi ⟨sg, rfl, rfl⟩
    refine ⟨_, rfl, _, _, rfl, rfl, .inr ⟨by decide, by decide⟩, _, rfl, sOf [x.getD i false], _, rfl, intText_c _, ?_, _, _, rfl, rfl, ?_⟩
    · rw [sOf_len]; exact (by decide : (1 : Nat) ≤ 640)
    · refine ⟨some (vS [x.getD i false]), ?_, rfl⟩
      have e : x.take (i + 1) = x.take i ++ [x.getD i false] := by
        rw [List.take_succ_eq_append_getElem hi, List.getD_eq_getElem?_getD, List.getElem?_eq_getElem hi]; rfl
      rw [e, numOf_append]
      cases x.getD i false <;> rfl
  · rintro σ H' ⟨sg, rfl, rfl⟩
    refine ⟨_, rfl, ?_⟩
    rw [List.take_length]
    exact hQ
theorem ok_is_number (B : Bi mg) (G : Gi K mg) (D : Dfn K mg "is_number" s_is_number) : C8.Cal P w K mg base 1 "is_number" (sp_is_number) [] := by
  refine D.cal sc_is_number (fun _ _ _ _ _ _ us hl => match us, hl with | [_, _, _], _ => rfl) (fun vs H Q E h => ?_) (fun f cdv A outer s H vs Q E hr h => ?_)
  · obtain ⟨i, a, b, rfl, _⟩ := h
    rfl
  obtain ⟨i, a, b, rfl, hQ⟩ := h
  refine ⟨_, (pss_one (ps_ret (pe_and (pe_callB call_isi (by rfl) B.isinstance (by decide +kernel) (pa_cons (pv 0) (pa_cons (pe_bltn (v := .ty "int") (by rfl) B.int (by decide +kernel) rfl) pa_nil))) (pe_and (pe_not (pe_callB call_isi (by rfl) B.isinstance (by decide +kernel) (pa_cons (pv 0) (pa_cons (pe_bltn (v := .ty "bool") (by rfl) B.bool (by decide +kernel) rfl) pa_nil)))) (pe_one (pe_chain op_le op_le (pv 1) (pv 0) (pv 2))))))), ?_⟩
  refine ⟨_, rfl, _, _, _, _, _, rfl, .ty _, .base (.int i), k_int_int, _, rfl, iteT ?_⟩
  refine ⟨_, rfl, _, _, _, _, _, rfl, .ty _, .base (.int i), k_int_bool, _, rfl, _, rfl, iteT ?_⟩
  refine ⟨_, rfl, _, rfl, _, _, rfl, rfl, _, rfl, ?_⟩
  refine ite2 (fun c => ?_) (fun c => ?_)
  · have c := of_decide_eq_true c
    refine ⟨_, rfl, _, _, rfl, rfl, ?_⟩
    rw [decide_eq_true c] at hQ
    exact hQ
  · have c := of_decide_eq_false (Bool.eq_false_iff.mpr c)
    rw [decide_eq_false c] at hQ
    exact hQ
theorem ok_is_bits (B : Bi mg) (G : Gi K mg) (D : Dfn K mg "is_bits" s_is_bits) : C8.Cal P w K mg base 1 "is_bits" (sp_is_bits) [] := by
  refine D.cal sc_is_bits (fun _ _ _ _ _ _ us hl => match us, hl with | [_, _], _ => rfl) (fun vs H Q E h => ?_) (fun f cdv A outer s H vs Q E hr h => ?_)
  · rcases h with ⟨x, n, rfl, _⟩ | ⟨i, n, rfl, _⟩ <;> rfl
  refine ⟨_, (pss_one (ps_ret (pe_and (pe_callB call_isi (by rfl) B.isinstance (by decide +kernel) (pa_cons (pv 0) (pa_cons (pe_bltn (v := .ty "str") (by rfl) B.str (by decide +kernel) rfl) pa_nil))) (pe_and (pe_cmpR op_eq (pe_callB call_len_str (by rfl) B.len PySem.boot_len (pa_cons (pv 0) pa_nil)) (pv 1) (nomark _)) (pe_one (pe_callB (cr_all rfl) (by rfl) B.all (by decide +kernel) (pa_cons (pe_lc (own := [("sign", 2)]) (g := (gName 2)) (tt := tYes) rfl sc_is_bits.nd (pi_str (pv 0)) (blkOk_by (own := [("sign", 2)]) (N := ["value", "length", "sign"]) (sc := defScope s_is_bits) (by decide +kernel)) (fun _ _ _ _ _ => (pg_name (i := 2) sc_is_bits.nd rfl (Or.inl rfl))) (fun _ _ _ _ _ => pts_nil) (fun _ _ _ _ _ => (pe_cmpR op_in_sign (pv 2) pe_str (by rfl)))) pa_nil))))))), ?_⟩
  rcases h with ⟨x, n, rfl, hx, hQ⟩ | ⟨i, n, rfl, hQ⟩
  · refine ⟨_, rfl, _, _, _, _, _, rfl, .ty _, .base (.str _), k_str_str, _, rfl, iteT ?_⟩
    refine ⟨_, rfl, _, rfl, ?_, _, rfl, rfl, _, rfl, ?_⟩
    · rw [sOf_len]; exact szl
    · rw [sOf_len]
      refine ite2 (fun c => ?_) (fun c => ?_)
      · have c := V.int.inj (of_decide_eq_true c)
        refine ⟨_, rfl, _, rfl, fun Da hDa => lcV K wn_str hDa (by omega) (fun _ => V.bl true) (fun i H' hi s Q q => ?_) (fun H' s hL => ?_)⟩
        · refine ⟨_, rfl, c01 (x.getD i false), _, rfl, rfl, ?_⟩
          rw [in01]
          exact q _ (Same.refl _)
        · refine ⟨Da, (List.range x.length).map (fun _ => true), rfl, ?_, ?_⟩
          · rw [List.map_map]; exact .inl (.inl hL)
          · rw [all_true (by simp)]
            have := hQ H' s
            rw [decide_eq_true (by omega)] at this
            exact this
      · have c : ¬ _ := fun z => of_decide_eq_false (Bool.eq_false_iff.mpr c) (congrArg V.int z)
        have := hQ H (Same.refl _)
        rw [decide_eq_false (by omega)] at this
        exact this
  · refine ⟨_, rfl, _, _, _, _, _, rfl, .ty _, .base (.int i), k_int_str, _, rfl, iteF ?_⟩
    exact hQ
theorem ok_is_row (B : Bi mg) (G : Gi K mg) (D : Dfn K mg "is_row" s_is_row)  (c_is_bits : C8.Cal P w K mg base 1 "is_bits" sp_is_bits []) : C8.Cal P w K mg base 2 "is_row" (sp_is_row K) [] := by
  refine D.cal sc_is_row (fun _ _ _ _ _ _ us hl => match us, hl with | [_, _, _], _ => rfl) (fun vs H Q E h => ?_) (fun f cdv A outer s H vs Q E hr h => ?_)
  · obtain ⟨a, xs, m, rfl, _⟩ := h
    rfl
  obtain ⟨a, xs, m, rfl, hS, hl, hm, hx, hQ⟩ := h
  refine ⟨_, (pss_one (ps_ret (pe_and (pe_callB call_isi (by rfl) B.isinstance (by decide +kernel) (pa_cons (pv 0) (pa_cons (pe_bltn (v := .ty "tuple") (by rfl) B.tuple (by decide +kernel) rfl) pa_nil))) (pe_and (pe_cmpR op_eq (pe_callB call_len_seq (by rfl) B.len PySem.boot_len (pa_cons (pv 0) pa_nil)) (pv 1) (nomark _)) (pe_one (pe_callB (cr_all rfl) (by rfl) B.all (by decide +kernel) (pa_cons (pe_lc (own := [("one", 3)]) (g := (gName 3)) (tt := tYes) rfl sc_is_row.nd (pi_tup (pv 0)) (blkOk_by (own := [("one", 3)]) (N := ["value", "many", "length", "one"]) (sc := defScope s_is_row) (by decide +kernel)) (fun _ _ _ _ _ => (pg_name (i := 3) sc_is_row.nd rfl (Or.inl rfl))) (fun _ _ _ _ _ => pts_nil) (fun _ _ _ _ _ => (C8.pe_c c_is_bits hr (by omega) rfl (pa_cons (pv 3) (pa_cons (pv 2) pa_nil))))) pa_nil))))))), ?_⟩
  refine ⟨_, rfl, _, _, _, _, _, rfl, .ty _, tyT hS, k_tup_tup, _, rfl, iteT ?_⟩
  refine ⟨_, rfl, a, _, rfl, .inr hS, _, rfl, rfl, _, rfl, ?_⟩
  rw [List.length_map, decide_eq_true rfl]
  refine iteT ?_
  refine ⟨_, rfl, a, rfl, ⟨_, hS⟩, fun Da hDa => lcV K (wn_tup hS) hDa (by rw [List.length_map]; omega) (fun _ => V.bl true) (fun i H' hi s Q q => ?_) (fun H' s hL => ?_)⟩
  · have hi : i < xs.length := by simpa using hi
    rw [map_getD hi]
    refine ⟨_, rfl, _, rfl, .inl ⟨xs[i], m, rfl, by rw [hx _ (List.getElem_mem hi)]; exact hm, fun H2 s2 => ?_⟩⟩
    rw [decide_eq_true (hx _ (List.getElem_mem hi))]
    exact q _ s2
  · refine ⟨Da, (List.range xs.length).map (fun _ => true), rfl, .inl (.inl ?_), ?_⟩
    · rw [hL, List.length_map, List.map_map]; rfl
    · rw [all_true (by simp)]
      exact hQ _ s
theorem ok_half (B : Bi mg) (G : Gi K mg) (D : Dfn K mg "half" s_half) : C8.Cal P w K mg base 1 "half" (sp_half) [] := by
  refine D.cal sc_half (fun _ _ _ _ _ _ us hl => match us, hl with | [_, _], _ => rfl) (fun vs H Q E h => ?_) (fun f cdv A outer s H vs Q E hr h => ?_)
  · obtain ⟨y, b, rfl, _⟩ := h
    rfl
  obtain ⟨y, b, rfl, hy, hQ⟩ := h
  refine ⟨_, (pss_cons (ps_set (i := 2) sc_half.nd rfl (Or.inl rfl) (pe_op op_fdiv (pe_callB call_len_str (by rfl) B.len PySem.boot_len (pa_cons (pv 0) pa_nil)) pe_int))
    (pss_one (ps_ret (pe_ifExp (pt_cmpR op_eq (pv 1) pe_str (nomark _)) (pe_slice sl_str (pv 0) po_none (po_some (pv 2))) (pe_slice sl_str (pv 0) (po_some (pv 2)) po_none))))), ?_⟩
  refine ⟨_, rfl, _, rfl, ?_, _, _, rfl, rfl, ?_, ?_⟩
  · rw [sOf_len]; exact szl
  · exact ⟨by decide, by decide⟩
  · rw [sOf_len]
    refine ⟨_, rfl, rfl, _, rfl, ?_⟩
    have e : ((y.length : Nat) : Int) / 2 = ((y.length / 2 : Nat) : Int) := by omega
    refine ite2 (fun c => ?_) (fun c => ?_)
    · have c : b = false := by
        have c : vS [b] = vS [false] := (of_decide_eq_true c).trans (congrArg V.str s0)
        simpa using sOf_inj (V.str.inj c)
      subst c
      refine ⟨_, rfl, _, rfl, _, rfl, _, rfl, by rw [sOf_len]; exact szl, ?_⟩
      rw [cut_sOf, e, HT.sIx_nat, HT.sIx_none]
      have : (List.take (min (y.length / 2) y.length - 0) (List.drop 0 y)) = halfOf y false := by
        unfold halfOf; rw [List.drop_zero, Nat.sub_zero, Nat.min_eq_left (by omega)]; rfl
      rw [this]
      exact hQ
    · have c : b = true := by
        cases b
        · exact absurd (congrArg V.str s0).symm (of_decide_eq_false (Bool.eq_false_iff.mpr c))
        · rfl
      subst c
      refine ⟨_, rfl, _, rfl, _, rfl, _, rfl, by rw [sOf_len]; exact szl, ?_⟩
      rw [cut_sOf, e, HT.sIx_nat, HT.sIx_none]
      have : (List.take (y.length - min (y.length / 2) y.length) (List.drop (min (y.length / 2) y.length) y)) = halfOf y true := by
        unfold halfOf; rw [Nat.min_eq_left (by omega), if_pos rfl, List.take_of_length_le (by rw [List.length_drop]; omega)]
      rw [this]
      exact hQ
end
/-! ### blocks in the heap -/
def GenAt (K : PySem.W.Frag) (H : Hp) (a : Addr) (n m : Nat) (rows : List Bs) : Prop := ∃ q, SqT K H a [.str "generator", .int n, .int m, .ref q] ∧ SqT K H q (rows.map vS)
def TblAt (K : PySem.W.Frag) (H : Hp) (qs : List Addr) (tb : List (List Bs)) : Prop := qs.length = tb.length ∧ ∀ (i : Nat) (q : Addr) (r : List Bs), qs[i]? = some q → tb[i]? = some r → SqT K H q (r.map vS)
def FunAt (K : PySem.W.Frag) (H : Hp) (a : Addr) (n l m : Nat) (tb : List (List Bs)) : Prop := ∃ q qs, SqT K H a [.str "function", .int n, .int l, .int m, .ref q] ∧ SqT K H q (qs.map V.ref) ∧ TblAt K H qs tb
theorem GenAt.tm {K : PySem.W.Frag} {H H' : Hp} {a : Addr} {n m : Nat} {rows : List Bs} (t : Tm K H H') (h : GenAt K H a n m rows) : GenAt K H' a n m rows := by
  obtain ⟨q, h1, h2⟩ := h
  exact ⟨q, t _ _ h1, t _ _ h2⟩
theorem FunAt.tm {K : PySem.W.Frag} {H H' : Hp} {a : Addr} {n l m : Nat} {tb : List (List Bs)} (t : Tm K H H') (h : FunAt K H a n l m tb) : FunAt K H' a n l m tb := by
  obtain ⟨q, qs, h1, h2, h3, h4⟩ := h
  exact ⟨q, qs, t _ _ h1, t _ _ h2, h3, fun i q r a b => t _ _ (h4 i q r a b)⟩
/-- a right table -/
structure TabOk (tb : List (List Bs)) (n l m : Nat) : Prop where
  len : tb.length = 2 ^ n
  row : ∀ r ∈ tb, r.length = 2 ^ l ∧ ∀ x ∈ r, x.length = m
theorem sc_is_generator : FnScope ["block"] ["block"] (defScope s_is_generator) := ⟨rfl, rfl, rfl, by decide +kernel, rfl, by decide +kernel, by decide +kernel⟩
theorem sc_is_function : FnScope ["block", "one"] ["block"] (defScope s_is_function) := ⟨rfl, rfl, rfl, by decide +kernel, rfl, by decide +kernel, by decide +kernel⟩
theorem sc_check_block : FnScope ["block"] ["block"] (defScope s_check_block) := ⟨rfl, rfl, rfl, by decide +kernel, rfl, by decide +kernel, by decide +kernel⟩
theorem sc_row_at : FnScope ["block", "string"] ["block", "string"] (defScope s_row_at) := ⟨rfl, rfl, rfl, by decide +kernel, rfl, by decide +kernel, by decide +kernel⟩
theorem sc_value_at : FnScope ["block", "key", "string"] ["block", "key", "string"] (defScope s_value_at) := ⟨rfl, rfl, rfl, by decide +kernel, rfl, by decide +kernel, by decide +kernel⟩
def sp_is_generator (K : PySem.W.Frag) : Sp := fun vs H Q _ => (∃ (a : Addr) (n m : Nat) (rows : List Bs), vs = [.ref a] ∧ GenAt K H a n m rows ∧ GenOk rows n m ∧ 1 ≤ n ∧ n ≤ 4 ∧ 1 ≤ m ∧ m ≤ 40 ∧ ∀ H', Same H H' → Q (.bl true) H') ∨
  (∃ (a : Addr) (n l m : Nat) (tb : List (List Bs)), vs = [.ref a] ∧ FunAt K H a n l m tb ∧ Q (.bl false) H)
def sp_is_function (K : PySem.W.Frag) : Sp := fun vs H Q _ => (∃ (a : Addr) (n l m : Nat) (tb : List (List Bs)), vs = [.ref a] ∧ FunAt K H a n l m tb ∧ TabOk tb n l m ∧ 1 ≤ n ∧ n ≤ 4 ∧ 1 ≤ l ∧ l ≤ 4 ∧ 1 ≤ m ∧ m ≤ 40 ∧ ∀ H', Same H H' → Q (.bl true) H')
/-- a block that check_block takes -/
inductive BlkAt (K : PySem.W.Frag) (H : Hp) : Addr → Prop where
  | gen {a : Addr} {n m : Nat} {rows : List Bs} : GenAt K H a n m rows → GenOk rows n m → 1 ≤ n → n ≤ 4 → 1 ≤ m → m ≤ 40 → BlkAt K H a
  | fn {a : Addr} {n l m : Nat} {tb : List (List Bs)} : FunAt K H a n l m tb → TabOk tb n l m → 1 ≤ n → n ≤ 4 → 1 ≤ l → l ≤ 4 → 1 ≤ m → m ≤ 40 → BlkAt K H a
theorem BlkAt.tm {K : PySem.W.Frag} {H H' : Hp} {a : Addr} (t : Tm K H H') (h : BlkAt K H a) : BlkAt K H' a := by
  cases h with
  | gen h g a1 a2 a3 a4 => exact .gen (h.tm t) g a1 a2 a3 a4
  | fn h g a1 a2 a3 a4 a5 a6 => exact .fn (h.tm t) g a1 a2 a3 a4 a5 a6
def sp_check_block (K : PySem.W.Frag) : Sp := fun vs H Q _ => ∃ a, vs = [.ref a] ∧ BlkAt K H a ∧ ∀ H', Same H H' → Q .non H'
def sp_row_at (K : PySem.W.Frag) : Sp := fun vs H Q _ => ∃ (a : Addr) (n m : Nat) (rows : List Bs) (x : Bs), vs = [.ref a, vS x] ∧ GenAt K H a n m rows ∧ numOf x < rows.length ∧ x.length ≤ 1000 ∧ Q (vS (rowAt rows x)) H
def sp_value_at (K : PySem.W.Frag) : Sp := fun vs H Q _ => ∃ (a : Addr) (n l m : Nat) (tb : List (List Bs)) (k x : Bs) (r : List Bs) (v : Bs), vs = [.ref a, vS k, vS x] ∧ FunAt K H a n l m tb ∧ tb[numOf k]? = some r ∧ r[numOf x]? = some v ∧ k.length ≤ 1000 ∧ x.length ≤ 1000 ∧ Q (vS v) H
theorem at0 {α : Type} (a : α) (r : List α) : atI (a :: r) 0 = some a := atI_nat (j := 0) rfl
theorem at1 {α : Type} (a b : α) (r : List α) : atI (a :: b :: r) 1 = some b := atI_nat (j := 1) rfl
theorem at2 {α : Type} (a b c : α) (r : List α) : atI (a :: b :: c :: r) 2 = some c := atI_nat (j := 2) rfl
theorem at3 {α : Type} (a b c d : α) (r : List α) : atI (a :: b :: c :: d :: r) 3 = some d := atI_nat (j := 3) rfl
theorem at4 {α : Type} (a b c d e : α) (r : List α) : atI (a :: b :: c :: d :: e :: r) 4 = some e := atI_nat (j := 4) rfl
section
variable {P : Program} {w : World} {K : PySem.W.Frag} {mg : Str → Option Value} {base : Heap}
theorem ok_row_at (B : Bi mg) (G : Gi K mg) (D : Dfn K mg "row_at" s_row_at)  (c_number_of : C8.Cal P w K mg base 1 "number_of" sp_number_of []) : C8.Cal P w K mg base 2 "row_at" (sp_row_at K) [] := by
  refine D.cal sc_row_at (fun _ _ _ _ _ _ us hl => match us, hl with | [_, _], _ => rfl) (fun vs H Q E h => ?_) (fun f cdv A outer s H vs Q E hr h => ?_)
  · obtain ⟨a, n, m, rows, x, rfl, _⟩ := h
    rfl
  obtain ⟨a, n, m, rows, x, rfl, ⟨q, h1, h2⟩, hx, hl, hQ⟩ := h
  refine ⟨_, (pss_one (ps_ret (pe_ix ix_tup (pe_ix ix_tup (pv 0) pe_int (fun _ _ => rfl)) (C8.pe_c c_number_of hr (by omega) rfl (pa_cons (pv 1) pa_nil)) (fun _ _ => rfl)))), ?_⟩
  refine ⟨_, rfl, _, _, _, _, rfl, rfl, h1, at3 _ _ _ _ _, _, rfl, x, rfl, hl, _, _, _, vS (rowAt rows x), rfl, rfl, h2, ?_, hQ⟩
  refine atI_nat ?_
  unfold rowAt
  rw [List.getElem?_map, List.getD_eq_getElem?_getD, List.getElem?_eq_getElem hx]; rfl
theorem ok_value_at (B : Bi mg) (G : Gi K mg) (D : Dfn K mg "value_at" s_value_at)  (c_number_of : C8.Cal P w K mg base 1 "number_of" sp_number_of []) : C8.Cal P w K mg base 2 "value_at" (sp_value_at K) [] := by
  refine D.cal sc_value_at (fun _ _ _ _ _ _ us hl => match us, hl with | [_, _, _], _ => rfl) (fun vs H Q E h => ?_) (fun f cdv A outer s H vs Q E hr h => ?_)
  · obtain ⟨a, n, l, m, tb, k, x, r, v, rfl, _⟩ := h
    rfl
  obtain ⟨a, n, l, m, tb, k, x, r, v, rfl, ⟨q, qs, h1, h2, h3, h4⟩, hr1, hr2, hk, hx, hQ⟩ := h
  refine ⟨_, (pss_one (ps_ret (pe_ix ix_tup (pe_ix ix_tup (pe_ix ix_tup (pv 0) pe_int (fun _ _ => rfl)) (C8.pe_c c_number_of hr (by omega) rfl (pa_cons (pv 1) pa_nil)) (fun _ _ => rfl)) (C8.pe_c c_number_of hr (by omega) rfl (pa_cons (pv 2) pa_nil)) (fun _ _ => rfl)))), ?_⟩
  have hk' : numOf k < qs.length := by rw [h3]; exact (List.getElem?_eq_some_iff.mp hr1).1
  refine ⟨_, rfl, _, _, _, _, rfl, rfl, h1, at4 _ _ _ _ _ _, _, rfl, k, rfl, hk, _, _, _, _, rfl, rfl, h2, atI_nat (v := V.ref qs[numOf k]) (by rw [List.getElem?_map, List.getElem?_eq_getElem hk']; rfl), ?_⟩
  refine ⟨_, rfl, x, rfl, hx, _, _, _, _, rfl, rfl, h4 _ _ _ (List.getElem?_eq_getElem hk') hr1, atI_nat (v := vS v) (by rw [List.getElem?_map, hr2]; rfl), ?_⟩
  exact hQ
theorem ok_is_generator (B : Bi mg) (G : Gi K mg) (D : Dfn K mg "is_generator" s_is_generator)  (c_is_number : C8.Cal P w K mg base 1 "is_number" sp_is_number []) (c_is_row : C8.Cal P w K mg base 2 "is_row" (sp_is_row K) []) : C8.Cal P w K mg base 3 "is_generator" (sp_is_generator K) [] := by
  refine D.cal sc_is_generator (fun _ _ _ _ _ _ us hl => match us, hl with | [_], _ => rfl) (fun vs H Q E h => ?_) (fun f cdv A outer s H vs Q E hr h => ?_)
  · rcases h with ⟨a, n, m, rows, rfl, _⟩ | ⟨a, n, l, m, tb, rfl, _⟩ <;> rfl
  refine ⟨_, (pss_cons (ps_if (PW.pt (pw_or (pt_not (pt_val (pe_callB call_isi (by rfl) B.isinstance (by decide +kernel) (pa_cons (pv 0) (pa_cons (pe_bltn (v := .ty "tuple") (by rfl) B.tuple (by decide +kernel) rfl) pa_nil))))) (pw_or (pt_cmpR op_ne (pe_callB call_len_seq (by rfl) B.len PySem.boot_len (pa_cons (pv 0) pa_nil)) pe_int (nomark _)) (pw_or1 (pt_cmpR op_ne (pe_ix ix_tup (pv 0) pe_int (fun _ _ => rfl)) pe_str (nomark _)))))) (pss_one (ps_ret pe_bl)) pss_nil)
    (pss_cons (ps_if (PW.pt (pw_or (pt_not (pt_val (C8.pe_c c_is_number hr (by omega) rfl (pa_cons (pe_ix ix_tup (pv 0) pe_int (fun _ _ => rfl)) (pa_cons pe_int (pa_cons pe_int pa_nil)))))) (pw_or1 (pt_not (pt_val (C8.pe_c c_is_number hr (by omega) rfl (pa_cons (pe_ix ix_tup (pv 0) pe_int (fun _ _ => rfl)) (pa_cons pe_int (pa_cons (C8.pe_gc rfl G.g_MOST_LENGTH) pa_nil))))))))) (pss_one (ps_ret pe_bl)) pss_nil)
    (pss_one (ps_ret (C8.pe_c c_is_row hr (by omega) rfl (pa_cons (pe_ix ix_tup (pv 0) pe_int (fun _ _ => rfl)) (pa_cons (pe_op op_shl pe_int (pe_ix ix_tup (pv 0) pe_int (fun _ _ => rfl))) (pa_cons (pe_ix ix_tup (pv 0) pe_int (fun _ _ => rfl)) pa_nil)))))))), ?_⟩
  rcases h with ⟨a, n, m, rows, rfl, ⟨q, h1, h2⟩, g, n1, n4, m1, m4, hQ⟩ | ⟨a, n, l, m, tb, rfl, ⟨q, qs, h1, h2, h3⟩, hQ⟩
  · refine ⟨_, rfl, _, _, _, _, _, rfl, .ty _, tyT h1, k_tup_tup, _, rfl, iteF ?_⟩
    refine ⟨_, rfl, a, _, rfl, .inr h1, rfl, _, rfl, iteF ?_⟩
    refine ⟨_, rfl, _, _, _, _, rfl, rfl, h1, at0 _ _, rfl, _, rfl, ?_⟩
    rw [decide_eq_true rfl]
    refine iteF ?_
    refine ⟨_, rfl, _, _, _, _, rfl, rfl, h1, at1 _ _ _, n, 1, 10, rfl, _, rfl, ?_⟩
    rw [decide_eq_true (by omega), decide_eq_true (by omega)]
    refine iteF ?_
    refine ⟨_, rfl, _, _, _, _, rfl, rfl, h1, at2 _ _ _ _, m, 1, 40, rfl, _, rfl, ?_⟩
    rw [decide_eq_true (by omega), decide_eq_true (by omega)]
    refine iteF ?_
    refine ⟨_, rfl, _, _, _, _, rfl, rfl, h1, at3 _ _ _ _ _, _, rfl, _, _, _, _, rfl, rfl, h1, at1 _ _ _, _, _, rfl, rfl, ?_, ?_⟩
    · refine ⟨by omega, by omega, by decide⟩
    refine ⟨_, rfl, _, _, _, _, rfl, rfl, h1, at2 _ _ _ _, q, rows, m, ?_, h2, ?_, by omega, g.row, hQ⟩
    · rw [g.len]; simp
    · rw [g.len]; exact Nat.le_trans (Nat.pow_le_pow_right (by decide) n4) (by decide)
  · refine ⟨_, rfl, _, _, _, _, _, rfl, .ty _, tyT h1, k_tup_tup, _, rfl, iteF ?_⟩
    refine ⟨_, rfl, a, _, rfl, .inr h1, rfl, _, rfl, iteT ?_⟩
    refine iteT ?_
    exact hQ
theorem ok_is_function (B : Bi mg) (G : Gi K mg) (D : Dfn K mg "is_function" s_is_function)  (c_is_number : C8.Cal P w K mg base 1 "is_number" sp_is_number []) (c_is_row : C8.Cal P w K mg base 2 "is_row" (sp_is_row K) []) : C8.Cal P w K mg base 3 "is_function" (sp_is_function K) [] := by
  refine D.cal sc_is_function (fun _ _ _ _ _ _ us hl => match us, hl with | [_], _ => rfl) (fun vs H Q E h => ?_) (fun f cdv A outer s H vs Q E hr h => ?_)
  · obtain ⟨a, n, l, m, tb, rfl, _⟩ := h
    rfl
  refine ⟨_, (pss_cons (ps_if (PW.pt (pw_or (pt_not (pt_val (pe_callB call_isi (by rfl) B.isinstance (by decide +kernel) (pa_cons (pv 0) (pa_cons (pe_bltn (v := .ty "tuple") (by rfl) B.tuple (by decide +kernel) rfl) pa_nil))))) (pw_or (pt_cmpR op_ne (pe_callB call_len_seq (by rfl) B.len PySem.boot_len (pa_cons (pv 0) pa_nil)) pe_int (nomark _)) (pw_or1 (pt_cmpR op_ne (pe_ix ix_tup (pv 0) pe_int (fun _ _ => rfl)) pe_str (nomark _)))))) (pss_one (ps_ret pe_bl)) pss_nil)
    (pss_cons (ps_if (PW.pt (pw_or (pt_not (pt_val (C8.pe_c c_is_number hr (by omega) rfl (pa_cons (pe_ix ix_tup (pv 0) pe_int (fun _ _ => rfl)) (pa_cons pe_int (pa_cons pe_int pa_nil)))))) (pw_or (pt_not (pt_val (C8.pe_c c_is_number hr (by omega) rfl (pa_cons (pe_ix ix_tup (pv 0) pe_int (fun _ _ => rfl)) (pa_cons pe_int (pa_cons pe_int pa_nil)))))) (pw_or1 (pt_cmpR op_gt (pe_op op_add (pe_ix ix_tup (pv 0) pe_int (fun _ _ => rfl)) (pe_ix ix_tup (pv 0) pe_int (fun _ _ => rfl))) pe_int (nomark _)))))) (pss_one (ps_ret pe_bl)) pss_nil)
    (pss_cons (ps_if (PW.pt (pw_or (pt_not (pt_val (C8.pe_c c_is_number hr (by omega) rfl (pa_cons (pe_ix ix_tup (pv 0) pe_int (fun _ _ => rfl)) (pa_cons pe_int (pa_cons (C8.pe_gc rfl G.g_MOST_LENGTH) pa_nil)))))) (pw_or1 (pt_not (pt_val (pe_callB call_isi (by rfl) B.isinstance (by decide +kernel) (pa_cons (pe_ix ix_tup (pv 0) pe_int (fun _ _ => rfl)) (pa_cons (pe_bltn (v := .ty "tuple") (by rfl) B.tuple (by decide +kernel) rfl) pa_nil)))))))) (pss_one (ps_ret pe_bl)) pss_nil)
    (pss_one (ps_ret (pe_and (pe_cmpR op_eq (pe_callB call_len_seq (by rfl) B.len PySem.boot_len (pa_cons (pe_ix ix_tup (pv 0) pe_int (fun _ _ => rfl)) pa_nil)) (pe_op op_shl pe_int (pe_ix ix_tup (pv 0) pe_int (fun _ _ => rfl))) (nomark _)) (pe_one (pe_callB (cr_all rfl) (by rfl) B.all (by decide +kernel) (pa_cons (pe_lc (own := [("one", 1)]) (g := (gName 1)) (tt := tYes) rfl sc_is_function.nd (pi_tup (pe_ix ix_tup (pv 0) pe_int (fun _ _ => rfl))) (blkOk_by (own := [("one", 1)]) (N := ["block", "one"]) (sc := defScope s_is_function) (by decide +kernel)) (fun _ _ _ _ _ => (pg_name (i := 1) sc_is_function.nd rfl (Or.inl rfl))) (fun _ _ _ _ _ => pts_nil) (fun _ _ _ _ _ => (C8.pe_c c_is_row hr (by omega) rfl (pa_cons (pv 1) (pa_cons (pe_op op_shl pe_int (pe_ix (show IxR _ (rIxT K) from ix_tup) (pv 0) pe_int (fun _ _ => rfl))) (pa_cons (pe_ix (show IxR _ (rIxT K) from ix_tup) (pv 0) pe_int (fun _ _ => rfl)) pa_nil)))))) pa_nil))))))))), ?_⟩
  obtain ⟨a, n, l, m, tb, rfl, ⟨q, qs, h1, h2, h3, h4⟩, g, n1, n4, l1, l4, m1, m4, hQ⟩ := h
  refine ⟨_, rfl, _, _, _, _, _, rfl, .ty _, tyT h1, k_tup_tup, _, rfl, iteF ?_⟩
  refine ⟨_, rfl, a, _, rfl, .inr h1, rfl, _, rfl, iteF ?_⟩
  refine ⟨_, rfl, _, _, _, _, rfl, rfl, h1, at0 _ _, rfl, _, rfl, ?_⟩
  rw [decide_eq_true rfl]
  refine iteF ?_
  refine ⟨_, rfl, _, _, _, _, rfl, rfl, h1, at1 _ _ _, n, 1, 8, rfl, _, rfl, ?_⟩
  rw [decide_eq_true (by omega), decide_eq_true (by omega)]
  refine iteF ?_
  refine ⟨_, rfl, _, _, _, _, rfl, rfl, h1, at2 _ _ _ _, l, 1, 8, rfl, _, rfl, ?_⟩
  rw [decide_eq_true (by omega), decide_eq_true (by omega)]
  refine iteF ?_
  refine ⟨_, rfl, _, _, _, _, rfl, rfl, h1, at1 _ _ _, _, rfl, _, _, _, _, rfl, rfl, h1, at2 _ _ _ _, _, _, rfl, rfl, _, _, rfl, rfl, _, rfl, ?_⟩
  rw [decide_eq_false (by omega)]
  refine iteF ?_
  refine ⟨_, rfl, _, _, _, _, rfl, rfl, h1, at3 _ _ _ _ _, m, 1, 40, rfl, _, rfl, ?_⟩
  rw [decide_eq_true (by omega), decide_eq_true (by omega)]
  refine iteF ?_
  refine ⟨_, rfl, _, _, _, _, rfl, rfl, h1, at4 _ _ _ _ _ _, _, _, _, _, _, rfl, .ty _, tyT h2, k_tup_tup, _, rfl, iteF ?_⟩
  have p16 : ∀ {k : Nat}, k ≤ 4 → 2 ^ k ≤ 16 := fun h => Nat.pow_le_pow_right (n := 2) (by decide) h
  refine ⟨_, rfl, _, _, _, _, rfl, rfl, h1, at4 _ _ _ _ _ _, q, _, rfl, .inr h2, _, rfl, _, _, _, _, rfl, rfl, h1, at1 _ _ _, _, _, rfl, rfl, ⟨by omega, by omega, by decide⟩, rfl, _, rfl, ?_⟩
  rw [decide_eq_true (by rw [List.length_map, h3, g.len]; simp)]
  refine iteT ?_
  refine ⟨_, rfl, _, _, _, _, rfl, rfl, h1, at4 _ _ _ _ _ _, q, rfl, ⟨_, h2⟩, fun Da hDa => lcV K (wn_tup h2) hDa (by rw [List.length_map, h3, g.len]; have := p16 n4; omega) (fun _ => V.bl true) (fun i H' hi s W hW => ?_) (fun H' s hL => ?_)⟩
  · have hi : i < qs.length := by simpa using hi
    rw [map_getD hi]
    have hi' : i < tb.length := by omega
    have hrow := g.row tb[i] (List.getElem_mem hi')
    refine ⟨_, rfl, _, rfl, _, _, _, _, rfl, rfl, s.tup h1, at2 _ _ _ _, _, _, rfl, rfl, ⟨by omega, by omega, by decide⟩, _, rfl, _, _, _, _, rfl, rfl, s.tup h1, at3 _ _ _ _ _, qs[i], tb[i], m, ?_, s.tup (h4 _ _ _ (List.getElem?_eq_getElem hi) (List.getElem?_eq_getElem hi')), ?_, by omega, hrow.2, fun H2 s2 => hW _ s2⟩
    · rw [hrow.1]; simp
    · rw [hrow.1]; have := p16 l4; omega
  · refine ⟨Da, (List.range qs.length).map (fun _ => true), rfl, .inl (.inl ?_), ?_⟩
    · rw [hL, List.length_map, List.map_map]; rfl
    · rw [all_true (by simp)]
      exact hQ _ s
theorem ok_check_block (B : Bi mg) (G : Gi K mg) (D : Dfn K mg "check_block" s_check_block)  (c_is_generator : C8.Cal P w K mg base 3 "is_generator" (sp_is_generator K) []) (c_is_function : C8.Cal P w K mg base 3 "is_function" (sp_is_function K) []) : C8.Cal P w K mg base 4 "check_block" (sp_check_block K) [] := by
  refine D.cal sc_check_block (fun _ _ _ _ _ _ us hl => match us, hl with | [_], _ => rfl) (fun vs H Q E h => ?_) (fun f cdv A outer s H vs Q E hr h => ?_)
  · obtain ⟨a, rfl, _⟩ := h
    rfl
  refine ⟨_, (pss_one (ps_if (PW.pt (pw_and (pt_not (pt_val (C8.pe_c c_is_generator hr (by omega) rfl (pa_cons (pv 0) pa_nil)))) (pw_and1 (pt_not (pt_val (C8.pe_c c_is_function hr (by omega) rfl (pa_cons (pv 0) pa_nil))))))) (pss_one ps_never) pss_nil)), ?_⟩
  obtain ⟨a, rfl, h, hQ⟩ := h
  cases h with
  | gen h g n1 n4 m1 m4 =>
    refine ⟨_, rfl, .inl ⟨a, _, _, _, rfl, h, g, n1, n4, m1, m4, fun H' s => ⟨_, rfl, iteF (iteF ?_)⟩⟩⟩
    exact hQ H' s
  | fn h g n1 n4 l1 l4 m1 m4 =>
    refine ⟨_, rfl, .inr ⟨a, _, _, _, _, rfl, h, _, rfl, iteT ?_⟩⟩
    refine ⟨_, rfl, a, _, _, _, _, rfl, h, g, n1, n4, l1, l4, m1, m4, fun H' s => ⟨_, rfl, iteF ?_⟩⟩
    exact hQ H' s
end
end BB
set_option maxHeartbeats 4000000
namespace BB
open PySem PySem.Spec PyProof.Rows L2
theorem sc_put_out : FnScope ["block", "state", "many", "out", "_", "row"] ["block", "state", "many"] (defScope s_put_out) := ⟨rfl, rfl, rfl, by decide +kernel, rfl, by decide +kernel, by decide +kernel⟩
theorem sc_longer : FnScope ["block", "k", "rows", "seed"] ["block", "k"] (defScope s_longer) := ⟨rfl, rfl, rfl, by decide +kernel, rfl, by decide +kernel, by decide +kernel⟩
theorem sc_go_down : FnScope ["block", "label", "path", "bit"] ["block", "label", "path"] (defScope s_go_down) := ⟨rfl, rfl, rfl, by decide +kernel, rfl, by decide +kernel, by decide +kernel⟩
theorem sc_tree : FnScope ["block", "d", "keys", "key", "paths", "path", "rows"] ["block", "d"] (defScope s_tree) := ⟨rfl, rfl, rfl, by decide +kernel, rfl, by decide +kernel, by decide +kernel⟩
theorem sLast (x : Bs) : sOf (x ++ [true]) = sOf (x ++ [true]) := rfl
theorem atLast {x : Bs} (h : x ≠ []) : atI (sOf x).cps.toList (-1) = some (c01 (x.getLastD false)) := by
  have e : x = x.dropLast ++ [x.getLastD false] := by
    rw [List.getLastD_eq_getLast?, List.getLast?_eq_some_getLast h]
    exact (List.dropLast_concat_getLast h).symm
  have : (sOf x).cps.toList = x.dropLast.map c01 ++ [c01 (x.getLastD false)] := by
    show (x.map c01).toArray.toList = _
    rw [List.toList_toArray]
    conv => lhs; rw [e]
    rw [List.map_append]; rfl
  rw [this]
  exact atI_last _ _
theorem cutLast {x : Bs} (h : x ≠ []) : cutS (sOf x) none (some (-1)) = sOf x.dropLast := by
  rw [cut_sOf, HT.sIx_none]
  congr 1
  have hp : 0 < x.length := List.length_pos_iff.mpr h
  have : HT.sIx x.length x.length (some (-1)) = x.length - 1 := by
    show (if (-1 : Int) < 0 then (-1 + (x.length : Int)).toNat else min (-1 : Int).toNat x.length) = _
    rw [if_pos (by decide)]; omega
  rw [this, List.drop_zero, Nat.sub_zero, List.dropLast_eq_take]
theorem sOf_one (b : Bool) : (⟨#[c01 b]⟩ : Str) = sOf [b] := rfl
def sp_put_out (K : PySem.W.Frag) : Sp := fun vs H Q _ => ∃ (a : Addr) (n : Nat) (rows : List Bs) (st : Bs) (k : Nat), vs = [.ref a, vS st, .int k] ∧ GenAt K H a n (n + 1) rows ∧ GenOk rows n (n + 1) ∧ st.length = n ∧ n ≤ 10 ∧ k ≤ 20 ∧ Q (vS (putOut rows k st)) H
def sp_longer (K : PySem.W.Frag) : Sp := fun vs H Q _ => ∃ (a : Addr) (n : Nat) (rows : List Bs) (k : Nat), vs = [.ref a, .int k] ∧ GenAt K H a n (n + 1) rows ∧ GenOk rows n (n + 1) ∧ 1 ≤ n ∧ n ≤ 4 ∧ 1 ≤ k ∧ k ≤ 2 ∧ ∀ p H', Same H H' → GenAt K H' p n (n + k) (longRows rows n k) → Q (.ref p) H'
def sp_go_down (K : PySem.W.Frag) : Sp := fun vs H Q _ => ∃ (a : Addr) (n : Nat) (rows : List Bs) (x : Bs) (b : Bool), vs = [.ref a, vS x, vS [b]] ∧ GenAt K H a n (2 * n) rows ∧ GenOk rows n (2 * n) ∧ x.length = n ∧ n ≤ 10 ∧ Q (vS (halfOf (rowAt rows x) b)) H
def treeTab (rows : List Bs) (n : Nat) : List (List Bs) := (allBs n).map fun x => (allBs 1).map fun p => halfOf (rowAt rows x) (p.headD false)
def sp_tree (K : PySem.W.Frag) : Sp := fun vs H Q _ => ∃ (a : Addr) (n : Nat) (rows : List Bs), vs = [.ref a, .int 1] ∧ GenAt K H a n (2 * n) rows ∧ GenOk rows n (2 * n) ∧ 1 ≤ n ∧ n ≤ 4 ∧ ∀ p H', Same H H' → FunAt K H' p n 1 n (treeTab rows n) → Q (.ref p) H'
section
variable {P : Program} {w : World} {K : PySem.W.Frag} {mg : Str → Option Value} {base : Heap}
theorem ok_put_out (B : Bi mg) (G : Gi K mg) (D : Dfn K mg "put_out" s_put_out)  (c_row_at : C8.Cal P w K mg base 2 "row_at" (sp_row_at K) []) : C8.Cal P w K mg base 3 "put_out" (sp_put_out K) [] := by
  refine D.cal sc_put_out (fun _ _ _ _ _ _ us hl => match us, hl with | [_, _, _], _ => rfl) (fun vs H Q E h => ?_) (fun f cdv A outer s H vs Q E hr h => ?_)
  · obtain ⟨a, n, rows, st, k, rfl, _⟩ := h
    rfl
  obtain ⟨a, n, rows, st, k, rfl, hG, g, hst, hn, hk, hQ⟩ := h
  refine ⟨_, (pss_cons (ps_set (i := 3) sc_put_out.nd rfl (Or.inl rfl) pe_str)
    (pss_cons (ps_for PassesOwn.never rfl (pi_range1 rfl B.range (pa_cons (pv 2) pa_nil)) (pg_name (i := 4) sc_put_out.nd rfl (Or.inl rfl)) (pss_cons (ps_set (i := 5) sc_put_out.nd rfl (Or.inl rfl) (C8.pe_c c_row_at hr (by omega) rfl (pa_cons (pv 0) (pa_cons (pv 1) pa_nil))))
      (pss_cons (ps_set (i := 1) sc_put_out.nd rfl (Or.inl rfl) (pe_slice sl_str (pv 5) po_none (po_some (pe_un un_neg pe_int))))
      (pss_one (ps_set (i := 3) sc_put_out.nd rfl (Or.inl rfl) (pe_op op_add_str (pv 3) (pe_ix ix_str (pv 5) (pe_un un_neg pe_int) (fun _ _ => rfl))))))))
    (pss_one (ps_ret (pe_op op_add_str (pv 3) (pv 1)))))), ?_⟩
  refine ⟨_, rfl, k, rfl, by omega, by omega, for_range (n := k) (fun i σ H' => ∃ (st' o : Bs) (u v : Option V), σ = [some (.ref a), some (vS st'), some (.int k), some (vS o), u, v] ∧ H' = H ∧ st'.length = n ∧ o.length = i ∧ i ≤ k ∧ o ++ putOut rows (k - i) st' = putOut rows k st)
    ⟨st, [], none, none, by rw [show vS [] = V.str "" from (congrArg V.str sE).symm]; rfl, rfl, hst, rfl, Nat.zero_le _, rfl⟩ ?_ ?_⟩
  · rintro i σ H' hi ⟨st', o, u, v, rfl, rfl, hl, ho, hik, e⟩
    have hrow := g.at hl
    have hne : rowAt rows st' ≠ [] := by
      intro q
      rw [q] at hrow; simp at hrow
    refine ⟨_, rfl, _, rfl, a, n, n + 1, rows, st', rfl, hG, ?_, by omega, ?_⟩
    · rw [g.len, ← hl]; exact numOf_lt st'
    refine ⟨_, rfl, _, rfl, _, rfl, sOf (rowAt rows st'), rfl, by rw [sOf_len]; exact szl, ?_⟩
    rw [show (-(1 : Int)) = -1 from rfl, cutLast hne]
    refine ⟨_, rfl, _, rfl, _, rfl, sOf (rowAt rows st'), _, c01 ((rowAt rows st').getLastD false), rfl, rfl, by rw [sOf_len]; exact szl, atLast hne, _, _, rfl, rfl, ?_, ?_⟩
    · rw [sOf_one, sOf_len, sOf_len, List.length_singleton]; exact szl
    · rw [sOf_one, sOf_app]
      refine ⟨(rowAt rows st').dropLast, o ++ [(rowAt rows st').getLastD false], some (.int (0 + i)), some (vS (rowAt rows st')), rfl, rfl, by rw [List.length_dropLast, hrow]; rfl, by simp [ho], by omega, ?_⟩
      rw [← e, List.append_assoc]
      congr 1
      have : k - i = (k - (i + 1)) + 1 := by omega
      rw [this, putOut]; rfl
  · rintro σ H' ⟨st', o, u, v, rfl, rfl, hl, ho, hik, e⟩
    refine ⟨_, rfl, _, rfl, _, _, rfl, rfl, ?_, ?_⟩
    · rw [sOf_len, sOf_len]; exact szl
    · rw [sOf_app]
      rw [Nat.sub_self, putOut] at e
      rw [e]
      exact hQ
theorem ok_longer (B : Bi mg) (G : Gi K mg) (D : Dfn K mg "longer" s_longer)  (c_bits : C8.Cal P w K mg base 1 "bits" spBits []) (c_check_block : C8.Cal P w K mg base 4 "check_block" (sp_check_block K) []) (c_is_number : C8.Cal P w K mg base 1 "is_number" sp_is_number []) (c_put_out : C8.Cal P w K mg base 3 "put_out" (sp_put_out K) []) : C8.Cal P w K mg base 5 "longer" (sp_longer K) [] := by
  refine D.cal sc_longer (fun _ _ _ _ _ _ us hl => match us, hl with | [_, _], _ => rfl) (fun vs H Q E h => ?_) (fun f cdv A outer s H vs Q E hr h => ?_)
  · obtain ⟨a, n, rows, k, rfl, _⟩ := h
    rfl
  obtain ⟨a, n, rows, k, rfl, hG, g, n1, n4, k1, k2, hQ⟩ := h
  refine ⟨_, (pss_cons (ps_expr (C8.pe_c c_check_block hr (by omega) rfl (pa_cons (pv 0) pa_nil)))
    (pss_cons (ps_if (PW.pt (pw_or (pt_cmpR op_ne (pe_ix ix_tup (pv 0) pe_int (fun _ _ => rfl)) pe_str (nomark _)) (pw_or (pt_cmpR op_ne (pe_ix ix_tup (pv 0) pe_int (fun _ _ => rfl)) (pe_op op_add (pe_ix ix_tup (pv 0) pe_int (fun _ _ => rfl)) pe_int) (nomark _)) (pw_or1 (pt_not (pt_val (C8.pe_c c_is_number hr (by omega) rfl (pa_cons (pv 1) (pa_cons pe_int (pa_cons pe_int pa_nil)))))))))) (pss_one ps_never) pss_nil)
    (pss_cons (ps_setLc (i := 2) (own := [("seed", 3)]) (g := (gName 3)) (tt := tYes) rfl sc_longer.nd rfl rfl (sw_true rfl rfl rfl (by decide +kernel)) (pi_range1 rfl B.range (pa_cons (pe_op op_shl pe_int (pe_ix ix_tup (pv 0) pe_int (fun _ _ => rfl))) pa_nil)) (blkOk_by (own := [("seed", 3)]) (N := ["block", "k", "rows", "seed"]) (sc := defScope s_longer) (by decide +kernel)) (fun _ _ _ _ _ => (pg_name (i := 3) sc_longer.nd rfl (Or.inl rfl))) (fun _ _ _ _ _ => pts_nil) (fun _ _ _ _ _ => (C8.pe_c c_put_out hr (by omega) rfl (pa_cons (pv 0) (pa_cons (C8.pe_c c_bits hr (by omega) rfl (pa_cons (pe_ix (show IxR _ (rIxT K) from ix_tup) (pv 0) pe_int (fun _ _ => rfl)) (pa_cons (pv 3) pa_nil))) (pa_cons (pv 1) pa_nil))))))
    (pss_one (ps_ret (pe_tup (pa_cons pe_str (pa_cons (pe_ix ix_tup (pv 0) pe_int (fun _ _ => rfl)) (pa_cons (pe_op op_add (pe_ix ix_tup (pv 0) pe_int (fun _ _ => rfl)) (pv 1)) (pa_cons (pe_callTy (T := "tuple") call_tuple_of (by rfl) B.tuple (by decide +kernel) (pa_cons (pv 2) pa_nil)) pa_nil)))))))))), ?_⟩
  refine ⟨_, rfl, a, rfl, .gen hG g n1 n4 (by omega) (by omega), fun H1 s1 => ?_⟩
  obtain ⟨q, h1, h2⟩ := hG.tm s1.tm
  refine ⟨_, rfl, _, _, _, _, rfl, rfl, h1, at0 _ _, rfl, _, rfl, ?_⟩
  rw [decide_eq_true rfl]
  refine iteF ?_
  refine ⟨_, rfl, _, _, _, _, rfl, rfl, h1, at2 _ _ _ _, _, rfl, _, _, _, _, rfl, rfl, h1, at1 _ _ _, _, _, rfl, rfl, rfl, _, rfl, ?_⟩
  rw [decide_eq_true (by simp)]
  refine iteF ?_
  refine ⟨_, rfl, k, 1, 20, rfl, _, rfl, ?_⟩
  rw [decide_eq_true (by omega), decide_eq_true (by omega)]
  refine iteF ?_
  obtain ⟨N, hN⟩ : ∃ N : Nat, N = 2 ^ n := ⟨_, rfl⟩
  have p16 : N ≤ 16 := by rw [hN]; exact Nat.pow_le_pow_right (n := 2) (by decide) n4
  have sh : (1 : Int) * 2 ^ ((n : Int).toNat) = (N : Int) := by rw [hN]; exact shl1 n
  refine ⟨_, rfl, _, _, _, _, rfl, rfl, h1, at1 _ _ _, _, _, rfl, rfl, ⟨by omega, by omega, by decide⟩, (N : Int), congrArg (fun z => [V.int z]) sh, by omega, by omega, ?_⟩
  rw [Int.toNat_natCast]
  refine fun Da hDa => lcV K (n := N) wn_range hDa (by omega) (fun i => vS (putOut rows k (bitsOf n i))) (fun i H' hi s W hW => ?_) (fun H' s hL => ?_)
  · have hG' := (hG.tm s1.tm).tm s.tm
    obtain ⟨q', h1', _⟩ := hG'
    refine ⟨_, rfl, _, rfl, _, _, _, _, rfl, rfl, h1', at1 _ _ _, _, rfl, n, i, rfl, by omega, fun H2 s2 => ?_⟩
    refine ⟨_, rfl, a, n, rows, bitsOf n i, k, rfl, hG.tm (s1.trans (s.trans s2)).tm, g, bitsOf_length _ _, by omega, by omega, hW _ s2⟩
  · have h1' := s.tup h1
    refine ⟨_, rfl, _, _, _, _, rfl, rfl, h1', at1 _ _ _, _, rfl, _, _, _, _, rfl, rfl, h1', at1 _ _ _, _, rfl, _, _, rfl, rfl, _, rfl, Da, _, rfl, .inl ⟨.inl (.inl hL), fun t ht => ?_⟩⟩
    refine ⟨(by show 4 ≤ sizeLine; decide), fun p hp => ?_⟩
    have hpt : p ≠ t := fun e => by rw [e, upd_same] at hp; cases hp
    have ht2 : ∀ {o : HO}, (upd H' t o) p = none → H' p = none := fun q => by rw [upd_ne hpt] at q; exact q
    refine hQ p _ ?_ ⟨t, ?_, ?_⟩
    · exact (s1.trans s).trans ((Same.new ht).trans (Same.new hp))
    · rw [show ((n + k : Nat) : Int) = (n : Int) + (k : Int) by omega]
      exact .inl (.inl upd_same)
    · refine .inl (.inl ?_)
      rw [upd_ne hpt.symm, upd_same]
      unfold longRows allBs
      rw [← hN]
      rw [List.map_map, List.map_map]; rfl
theorem ok_go_down (B : Bi mg) (G : Gi K mg) (D : Dfn K mg "go_down" s_go_down)  (c_row_at : C8.Cal P w K mg base 2 "row_at" (sp_row_at K) []) (c_half : C8.Cal P w K mg base 1 "half" sp_half []) : C8.Cal P w K mg base 3 "go_down" (sp_go_down K) [] := by
  refine D.cal sc_go_down (fun _ _ _ _ _ _ us hl => match us, hl with | [_, _, _], _ => rfl) (fun vs H Q E h => ?_) (fun f cdv A outer s H vs Q E hr h => ?_)
  · obtain ⟨a, n, rows, x, b, rfl, _⟩ := h
    rfl
  obtain ⟨a, n, rows, x, b, rfl, hG, g, hx, hn, hQ⟩ := h
  refine ⟨_, (pss_cons (ps_for PassesOwn.never rfl (pi_str (pv 2)) (pg_name (i := 3) sc_go_down.nd rfl (Or.inl rfl)) (pss_one (ps_set (i := 1) sc_go_down.nd rfl (Or.inl rfl) (C8.pe_c c_half hr (by omega) rfl (pa_cons (C8.pe_c c_row_at hr (by omega) rfl (pa_cons (pv 0) (pa_cons (pv 1) pa_nil))) (pa_cons (pv 3) pa_nil))))))
    (pss_one (ps_ret (pv 1)))), ?_⟩
  refine ⟨_, rfl, sOf [b], rfl, forW (n := 1) wn_str (fun i σ H' => ∃ (u : Option V), σ = [some (.ref a), some (vS (if i = 0 then x else halfOf (rowAt rows x) b)), some (vS [b]), u] ∧ H' = H) ⟨none, rfl, rfl⟩ (fun i σ H' ⟨_, _, e⟩ => by rw [e]; exact Same.refl _) ?_ ?_⟩
  · rintro i σ H' hi ⟨u, rfl, rfl⟩
    have : i = 0 := by omega
    subst this
    have hrow := g.at hx
    refine ⟨_, rfl, _, rfl, a, n, 2 * n, rows, x, rfl, hG, ?_, by omega, ?_⟩
    · rw [g.len, ← hx]; exact numOf_lt x
    refine ⟨_, rfl, rowAt rows x, b, rfl, by omega, some (vS [b]), rfl, rfl⟩
  · rintro σ H' ⟨u, rfl, rfl⟩
    exact ⟨_, rfl, hQ⟩
theorem ok_tree (B : Bi mg) (G : Gi K mg) (D : Dfn K mg "tree" s_tree)  (c_bits : C8.Cal P w K mg base 1 "bits" spBits []) (c_check_block : C8.Cal P w K mg base 4 "check_block" (sp_check_block K) []) (c_is_number : C8.Cal P w K mg base 1 "is_number" sp_is_number []) (c_go_down : C8.Cal P w K mg base 3 "go_down" (sp_go_down K) []) : C8.Cal P w K mg base 5 "tree" (sp_tree K) [] := by
  refine D.cal sc_tree (fun _ _ _ _ _ _ us hl => match us, hl with | [_, _], _ => rfl) (fun vs H Q E h => ?_) (fun f cdv A outer s H vs Q E hr h => ?_)
  · obtain ⟨a, n, rows, rfl, _⟩ := h
    rfl
  obtain ⟨a, n, rows, rfl, hG, g, n1, n4, hQ⟩ := h
  refine ⟨_, (pss_cons (ps_expr (C8.pe_c c_check_block hr (by omega) rfl (pa_cons (pv 0) pa_nil)))
    (pss_cons (ps_if (PW.pt (pw_or (pt_cmpR op_ne (pe_ix ix_tup (pv 0) pe_int (fun _ _ => rfl)) pe_str (nomark _)) (pw_or (pt_cmpR op_ne (pe_ix ix_tup (pv 0) pe_int (fun _ _ => rfl)) (pe_op op_mul pe_int (pe_ix ix_tup (pv 0) pe_int (fun _ _ => rfl))) (nomark _)) (pw_or (pt_not (pt_val (C8.pe_c c_is_number hr (by omega) rfl (pa_cons (pv 1) (pa_cons pe_int (pa_cons pe_int pa_nil)))))) (pw_or1 (pt_cmpR op_gt (pe_op op_add (pe_ix ix_tup (pv 0) pe_int (fun _ _ => rfl)) (pv 1)) pe_int (nomark _))))))) (pss_one ps_never) pss_nil)
    (pss_cons (ps_if (pt_cmpR op_gt (pe_ix ix_tup (pv 0) pe_int (fun _ _ => rfl)) pe_int (nomark _)) (pss_one ps_never) pss_nil)
    (pss_cons (ps_setLc (i := 2) (own := [("key", 3)]) (g := (gName 3)) (tt := tYes) rfl sc_tree.nd rfl rfl (sw_true rfl rfl rfl (by decide +kernel)) (pi_range1 rfl B.range (pa_cons (pe_op op_shl pe_int (pe_ix ix_tup (pv 0) pe_int (fun _ _ => rfl))) pa_nil)) (blkOk_by (own := [("key", 3)]) (N := ["block", "d", "keys", "key", "paths", "path", "rows"]) (sc := defScope s_tree) (by decide +kernel)) (fun _ _ _ _ _ => (pg_name (i := 3) sc_tree.nd rfl (Or.inl rfl))) (fun _ _ _ _ _ => pts_nil) (fun _ _ _ _ _ => (C8.pe_c c_bits hr (by omega) rfl (pa_cons (pe_ix (show IxR _ (rIxT K) from ix_tup) (pv 0) pe_int (fun _ _ => rfl)) (pa_cons (pv 3) pa_nil)))))
    (pss_cons (ps_set (i := 4) sc_tree.nd rfl (Or.inr rfl) (pe_lc (own := [("path", 5)]) (g := (gName 5)) (tt := tYes) rfl sc_tree.nd (pi_range1 rfl B.range (pa_cons (pe_op op_shl pe_int (pv 1)) pa_nil)) (blkOk_by (own := [("path", 5)]) (N := ["block", "d", "keys", "key", "paths", "path", "rows"]) (sc := defScope s_tree) (by decide +kernel)) (fun _ _ _ _ _ => (pg_name (i := 5) sc_tree.nd rfl (Or.inl rfl))) (fun _ _ _ _ _ => pts_nil) (fun _ _ _ _ _ => (C8.pe_c c_bits hr (by omega) rfl (pa_cons (pv 1) (pa_cons (pv 5) pa_nil))))))
    (pss_cons (ps_setLc (i := 6) (own := [("key", 3)]) (g := (gName 3)) (tt := tYes) rfl sc_tree.nd rfl rfl (sw_true rfl rfl rfl (by decide +kernel)) (pi_list (pv 2)) (blkOk_by (own := [("key", 3)]) (N := ["block", "d", "keys", "key", "paths", "path", "rows"]) (sc := defScope s_tree) (by decide +kernel)) (fun _ _ _ _ _ => (pg_name (i := 3) sc_tree.nd rfl (Or.inr rfl))) (fun _ _ _ _ _ => pts_nil) (fun _ _ _ _ _ => (pe_callTy (T := "tuple") (show CallR _ (.type "tuple") (rTupOf K) from call_tuple_of) (by rfl) B.tuple (by decide +kernel) (pa_cons (pe_lc (own := [("path", 5)]) (g := (gName 5)) (tt := tYes) rfl sc_tree.nd (show PI _ _ _ (iList K _) from pi_list (pv 4)) (blkOk_re (blkOk_by (own := [("path", 5)]) (N := ["block", "d", "keys", "key", "paths", "path", "rows"]) (sc := lcScope ((defBody s_tree).getD 5 (.Pass ⟨0, 0, 0, 0⟩))) (by decide +kernel))) (fun _ _ _ _ _ => (pg_name (i := 5) sc_tree.nd rfl (Or.inl rfl))) (fun _ _ _ _ _ => pts_nil) (fun _ _ _ _ _ => (C8.pe_c c_go_down hr (by omega) rfl (pa_cons (pv 0) (pa_cons (pv 3) (pa_cons (pv 5) pa_nil)))))) pa_nil))))
    (pss_one (ps_ret (pe_tup (pa_cons pe_str (pa_cons (pe_ix ix_tup (pv 0) pe_int (fun _ _ => rfl)) (pa_cons (pv 1) (pa_cons (pe_ix ix_tup (pv 0) pe_int (fun _ _ => rfl)) (pa_cons (pe_callTy (T := "tuple") call_tuple_of (by rfl) B.tuple (by decide +kernel) (pa_cons (pv 6) pa_nil)) pa_nil)))))))))))))), ?_⟩
  refine ⟨_, rfl, a, rfl, .gen hG g n1 n4 (by omega) (by omega), fun H1 s1 => ?_⟩
  obtain ⟨q, h1, h2⟩ := hG.tm s1.tm
  refine ⟨_, rfl, _, _, _, _, rfl, rfl, h1, at0 _ _, rfl, _, rfl, ?_⟩
  rw [decide_eq_true rfl]
  refine iteF ?_
  refine ⟨_, rfl, _, _, _, _, rfl, rfl, h1, at2 _ _ _ _, _, rfl, _, _, _, _, rfl, rfl, h1, at1 _ _ _, _, _, rfl, rfl, .inl ⟨by decide, by decide⟩, rfl, _, rfl, ?_⟩
  rw [decide_eq_true (by simp)]
  refine iteF ?_
  refine ⟨_, rfl, 1, 1, 8, rfl, _, rfl, iteF ?_⟩
  refine ⟨_, rfl, _, _, _, _, rfl, rfl, h1, at1 _ _ _, _, rfl, _, _, rfl, rfl, _, _, rfl, rfl, _, rfl, ?_⟩
  rw [decide_eq_false (by omega)]
  refine iteF ?_
  refine ⟨_, rfl, _, _, _, _, rfl, rfl, h1, at1 _ _ _, _, _, rfl, rfl, _, rfl, ?_⟩
  rw [decide_eq_false (by omega)]
  refine iteF ?_
  obtain ⟨N, hN⟩ : ∃ N : Nat, N = 2 ^ n := ⟨_, rfl⟩
  have p16 : N ≤ 16 := by rw [hN]; exact Nat.pow_le_pow_right (n := 2) (by decide) n4
  have sh : (1 : Int) * 2 ^ ((n : Int).toNat) = (N : Int) := by rw [hN]; exact shl1 n
  -- keys
  refine ⟨_, rfl, _, _, _, _, rfl, rfl, h1, at1 _ _ _, _, _, rfl, rfl, ⟨by omega, by omega, by decide⟩, (N : Int), congrArg (fun z => [V.int z]) sh, by omega, by omega, ?_⟩
  rw [Int.toNat_natCast]
  refine fun Dk hDk => lcV K (n := N) wn_range hDk (by omega) (fun i => vS (bitsOf n i)) (fun i H' hi s W hW => ?_) (fun H2 s2 hLk => ?_)
  · have h1' := s.tup h1
    exact ⟨_, rfl, _, _, _, _, rfl, rfl, h1', at1 _ _ _, _, rfl, n, i, rfl, by omega, hW⟩
  -- paths
  refine ⟨_, rfl, _, _, rfl, rfl, ⟨by decide, by decide, by decide⟩, ((2 : Nat) : Int), rfl, by decide, by decide, ?_⟩
  refine fun Dp hDp => lcV K (n := 2) wn_range hDp (by omega) (fun i => vS (bitsOf 1 i)) (fun i H' hi s W hW => ?_) (fun H3 s3 hLp => ?_)
  · exact ⟨_, rfl, _, rfl, 1, i, rfl, by omega, hW⟩
  -- rows
  have hLk3 : H3 Dk = some _ := s3 _ _ hLk
  have s13 := s1.trans (s2.trans s3)
  refine ⟨_, rfl, Dk, rfl, ⟨_, .inl (.inl hLk3)⟩, fun Dr hDr => lcN K (wn_list (.inl (.inl hLk3))) hDr (by simp; omega) (fun i y H => ∃ t, y = .ref t ∧ SqT K H t (((allBs 1).map fun p => halfOf (rowAt rows (bitsOf n i)) (p.headD false)).map vS)) ?_ ?_ ?_⟩
  · rintro i y H H' tm ⟨t, rfl, ht⟩
    exact ⟨t, rfl, tm _ _ ht⟩
  · intro i H4 hi s4 W hW
    have hi : i < N := by simpa using hi
    rw [range_getD hi]
    have hLp4 : H4 Dp = some _ := s4 _ _ hLp
    refine ⟨_, rfl, Dp, rfl, ⟨_, .inl (.inl hLp4)⟩, fun Di hDi => lcV K (wn_list (.inl (.inl hLp4))) hDi (by simp) (fun j => vS (halfOf (rowAt rows (bitsOf n i)) (j % 2 == 1))) (fun j H5 hj s5 W5 hW5 => ?_) (fun H5 s5 hLi => ?_)⟩
    · have hj : j < 2 := by simpa using hj
      rw [range_getD hj]
      exact ⟨_, rfl, _, rfl, _, rfl, a, n, rows, bitsOf n i, (j % 2 == 1), rfl, hG.tm (s13.trans (s4.trans s5)).tm, g, bitsOf_length _ _, by omega, hW5 _ (Same.refl _)⟩
    · refine ⟨Di, _, rfl, .inl ⟨.inl (.inl hLi), fun t ht => hW _ _ (s5.trans (Same.new ht)) ⟨t, rfl, .inl (.inl ?_)⟩⟩⟩
      rw [upd_same]
      unfold allBs
      rw [List.map_map, List.map_map, List.length_map, List.length_range]; rfl
  · intro H4 ys s4 hL hl hR
    have h1' := (s2.trans (s3.trans s4)).tup h1
    refine ⟨_, rfl, _, _, _, _, rfl, rfl, h1', at1 _ _ _, _, rfl, _, rfl, _, _, _, _, rfl, rfl, h1', at1 _ _ _, _, rfl, Dr, _, rfl, .inl ⟨.inl (.inl hL), fun t ht => ?_⟩⟩
    refine ⟨(by show 5 ≤ sizeLine; decide), fun p hp => ?_⟩
    have hpt : p ≠ t := fun e => by rw [e, upd_same] at hp; cases hp
    have sF : Same H4 (upd (upd H4 t (.tup ys)) p (.tup [.str "function", .int n, .int 1, .int n, .ref t])) := (Same.new ht).trans (Same.new hp)
    have hys : ∃ qs : List Addr, ys = qs.map V.ref := by
      refine ⟨ys.map (fun v => match v with | .ref a => a | _ => 0), ?_⟩
      rw [List.map_map]
      have : ys.map id = ys.map (V.ref ∘ fun v => match v with | .ref a => a | _ => 0) := by
        refine List.map_congr_left fun v hv => ?_
        obtain ⟨i, hi, e⟩ := List.getElem_of_mem hv
        obtain ⟨t', e', _⟩ := hR i v (by rw [List.getElem?_eq_getElem hi, e])
        rw [e']; rfl
      rw [List.map_id] at this
      exact this
    obtain ⟨qs, rfl⟩ := hys
    refine hQ p _ (s13.trans (s4.trans sF)) ⟨t, qs, .inl (.inl upd_same), .inl (.inl (by rw [upd_ne hpt.symm, upd_same])), ?_, ?_⟩
    · rw [List.length_map] at hl
      unfold treeTab
      rw [hl, List.length_map, List.length_map, List.length_range, allBs_length, hN]
    · intro i q' r e1 e2
      obtain ⟨t', e', ht'⟩ := hR i (.ref q') (by rw [List.getElem?_map, e1]; rfl)
      cases e'
      have hi : i < N := by
        have := (List.getElem?_eq_some_iff.mp e1).1
        rw [List.length_map, List.length_map, List.length_range] at hl
        omega
      unfold treeTab at e2
      rw [List.getElem?_map, allBs_get (by rw [← hN]; exact hi)] at e2
      cases e2
      exact sF.tup ht' 
end
end BB
set_option maxHeartbeats 4000000
namespace BB
open PySem PySem.Spec PyProof.Rows L2
theorem sc_are_parts : FnScope ["value", "part"] ["value"] (defScope s_are_parts) := ⟨rfl, rfl, rfl, by decide +kernel, rfl, by decide +kernel, by decide +kernel⟩
theorem sc_inner_plain : FnScope ["breaker", "word", "rest"] ["breaker"] (defScope s_inner_plain) := ⟨rfl, rfl, rfl, by decide +kernel, rfl, by decide +kernel, by decide +kernel⟩
theorem sc_check_plain : FnScope ["breaker", "waiting", "within", "one", "depth", "inner", "other"] ["breaker"] (defScope s_check_plain) := ⟨rfl, rfl, rfl, by decide +kernel, rfl, by decide +kernel, by decide +kernel⟩
theorem sc_has_plain_word : FnScope ["value"] ["value"] (defScope s_has_plain_word) := ⟨rfl, rfl, rfl, by decide +kernel, rfl, by decide +kernel, by decide +kernel⟩
theorem sc_check_breaker : FnScope ["breaker", "layers", "word"] ["breaker"] (defScope s_check_breaker) := ⟨rfl, rfl, rfl, by decide +kernel, rfl, by decide +kernel, by decide +kernel⟩
theorem sc_is_plain : FnScope ["breaker"] ["breaker"] (defScope s_is_plain) := ⟨rfl, rfl, rfl, by decide +kernel, rfl, by decide +kernel, by decide +kernel⟩
theorem sc_most_plain_asks : FnScope ["breaker", "most", "waiting", "one", "asks", "inner"] ["breaker"] (defScope s_most_plain_asks) := ⟨rfl, rfl, rfl, by decide +kernel, rfl, by decide +kernel, by decide +kernel⟩
theorem sc_most_asks : FnScope ["breaker", "more"] ["breaker"] (defScope s_most_asks) := ⟨rfl, rfl, rfl, by decide +kernel, rfl, by decide +kernel, by decide +kernel⟩
/-! ### breakers in the heap -/
def partV : Part → V
  | .lit b => vS [b]
  | .bit i => .int i
mutual
def BrkAt (K : PySem.W.Frag) (H : Hp) : Brk → V → Prop
  | .say ps, v => ∃ a p, v = .ref a ∧ SqT K H a [.str "say", .ref p] ∧ SqT K H p (ps.map partV)
  | .toss bs, v => ∃ a p vs, v = .ref a ∧ SqT K H a [.str "toss", .ref p] ∧ SqT K H p vs ∧ BrksAt K H bs vs
  | .look i f s, v => ∃ a u w, v = .ref a ∧ SqT K H a [.str "look", .int i, u, w] ∧ BrkAt K H f u ∧ BrkAt K H s w
  | .ask ps n, v => ∃ a p u, v = .ref a ∧ SqT K H a [.str "ask", .ref p, u] ∧ SqT K H p (ps.map partV) ∧ BrkAt K H n u
def BrksAt (K : PySem.W.Frag) (H : Hp) : List Brk → List V → Prop
  | [], vs => vs = []
  | b :: bs, vs => ∃ v ws, vs = v :: ws ∧ BrkAt K H b v ∧ BrksAt K H bs ws
end
mutual
theorem BrkAt.tm {K : PySem.W.Frag} {H H' : Hp} (t : Tm K H H') : ∀ {b : Brk} {v : V}, BrkAt K H b v → BrkAt K H' b v
  | .say ps, v, ⟨a, p, e, h1, h2⟩ => ⟨a, p, e, t _ _ h1, t _ _ h2⟩
  | .toss bs, v, ⟨a, p, vs, e, h1, h2, h3⟩ => ⟨a, p, vs, e, t _ _ h1, t _ _ h2, BrksAt.tm t h3⟩
  | .look i f s, v, ⟨a, u, w, e, h1, h2, h3⟩ => ⟨a, u, w, e, t _ _ h1, BrkAt.tm t h2, BrkAt.tm t h3⟩
  | .ask ps n, v, ⟨a, p, u, e, h1, h2, h3⟩ => ⟨a, p, u, e, t _ _ h1, t _ _ h2, BrkAt.tm t h3⟩
theorem BrksAt.tm {K : PySem.W.Frag} {H H' : Hp} (t : Tm K H H') : ∀ {bs : List Brk} {vs : List V}, BrksAt K H bs vs → BrksAt K H' bs vs
  | [], vs, h => h
  | b :: bs, vs, ⟨v, ws, e, h1, h2⟩ => ⟨v, ws, e, BrkAt.tm t h1, BrksAt.tm t h2⟩
end
def kids : Brk → List Brk
  | .say _ => []
  | .toss bs => bs
  | .look _ f s => [f, s]
  | .ask _ n => [n]
def word : Brk → Str
  | .say _ => "say"
  | .toss _ => "toss"
  | .look _ _ _ => "look"
  | .ask _ _ => "ask"
theorem BrkAt.word {K : PySem.W.Frag} {H : Hp} : ∀ {b : Brk} {v : V}, BrkAt K H b v → ∃ a r, v = .ref a ∧ SqT K H a (.str (word b) :: r)
  | .say ps, v, ⟨a, p, e, h1, _⟩ => ⟨a, _, e, h1⟩
  | .toss bs, v, ⟨a, p, vs, e, h1, _⟩ => ⟨a, _, e, h1⟩
  | .look i f s, v, ⟨a, u, w, e, h1, _⟩ => ⟨a, _, e, h1⟩
  | .ask ps n, v, ⟨a, p, u, e, h1, _⟩ => ⟨a, _, e, h1⟩
theorem BrksAt.get {K : PySem.W.Frag} {H : Hp} : ∀ {bs : List Brk} {vs : List V}, BrksAt K H bs vs → bs.length = vs.length ∧ ∀ (i : Nat) (b : Brk) (v : V), bs[i]? = some b → vs[i]? = some v → BrkAt K H b v
  | [], vs, h => by
    cases (show vs = [] from h)
    exact ⟨rfl, fun i b v e => by simp at e⟩
  | b :: bs, vs, ⟨v, ws, e, h1, h2⟩ => by
    subst e
    obtain ⟨l, g⟩ := h2.get
    refine ⟨by simp [l], fun i b' v' e1 e2 => ?_⟩
    cases i with
    | zero => cases e1; cases e2; exact h1
    | succ i => exact g i b' v' (by simpa using e1) (by simpa using e2)
theorem BrksAt.mk {K : PySem.W.Frag} {H : Hp} : ∀ {bs : List Brk} {vs : List V}, bs.length = vs.length → (∀ (i : Nat) (b : Brk) (v : V), bs[i]? = some b → vs[i]? = some v → BrkAt K H b v) → BrksAt K H bs vs
  | [], [], _, _ => rfl
  | b :: bs, v :: vs, l, g => ⟨v, vs, rfl, g 0 b v rfl rfl, BrksAt.mk (by simpa using l) fun i b' v' e1 e2 => g (i + 1) b' v' (by simpa using e1) (by simpa using e2)⟩
theorem word_in : ∀ b : Brk, inV (.str (word b)) [.str "say", .str "toss", .str "look", .str "ask"] = true
  | .say _ => (by decide +kernel : inV (.str "say") [.str "say", .str "toss", .str "look", .str "ask"] = true)
  | .toss _ => (by decide +kernel : inV (.str "toss") [.str "say", .str "toss", .str "look", .str "ask"] = true)
  | .look _ _ _ => (by decide +kernel : inV (.str "look") [.str "say", .str "toss", .str "look", .str "ask"] = true)
  | .ask _ _ => (by decide +kernel : inV (.str "ask") [.str "say", .str "toss", .str "look", .str "ask"] = true)
theorem w_say_say : decide (V.str ("say" : Str) = V.str "say") = true := by decide +kernel
theorem w_say_toss : decide (V.str ("say" : Str) = V.str "toss") = false := by decide +kernel
theorem w_say_look : decide (V.str ("say" : Str) = V.str "look") = false := by decide +kernel
theorem w_say_ask : decide (V.str ("say" : Str) = V.str "ask") = false := by decide +kernel
theorem w_toss_say : decide (V.str ("toss" : Str) = V.str "say") = false := by decide +kernel
theorem w_toss_toss : decide (V.str ("toss" : Str) = V.str "toss") = true := by decide +kernel
theorem w_toss_look : decide (V.str ("toss" : Str) = V.str "look") = false := by decide +kernel
theorem w_toss_ask : decide (V.str ("toss" : Str) = V.str "ask") = false := by decide +kernel
theorem w_look_say : decide (V.str ("look" : Str) = V.str "say") = false := by decide +kernel
theorem w_look_toss : decide (V.str ("look" : Str) = V.str "toss") = false := by decide +kernel
theorem w_look_look : decide (V.str ("look" : Str) = V.str "look") = true := by decide +kernel
theorem w_look_ask : decide (V.str ("look" : Str) = V.str "ask") = false := by decide +kernel
theorem w_ask_say : decide (V.str ("ask" : Str) = V.str "say") = false := by decide +kernel
theorem w_ask_toss : decide (V.str ("ask" : Str) = V.str "toss") = false := by decide +kernel
theorem w_ask_look : decide (V.str ("ask" : Str) = V.str "look") = false := by decide +kernel
theorem w_ask_ask : decide (V.str ("ask" : Str) = V.str "ask") = true := by decide +kernel
theorem eq_say : ∀ b : Brk, decide (V.str (word b) = V.str "say") = (match b with | .say _ => true | _ => false)
  | .say _ => (by decide +kernel : decide (V.str ("say" : Str) = V.str "say") = true)
  | .toss _ => (by decide +kernel : decide (V.str ("toss" : Str) = V.str "say") = false)
  | .look _ _ _ => (by decide +kernel : decide (V.str ("look" : Str) = V.str "say") = false)
  | .ask _ _ => (by decide +kernel : decide (V.str ("ask" : Str) = V.str "say") = false)
theorem eq_toss : ∀ b : Brk, decide (V.str (word b) = V.str "toss") = (match b with | .toss _ => true | _ => false)
  | .say _ => (by decide +kernel : decide (V.str ("say" : Str) = V.str "toss") = false)
  | .toss _ => (by decide +kernel : decide (V.str ("toss" : Str) = V.str "toss") = true)
  | .look _ _ _ => (by decide +kernel : decide (V.str ("look" : Str) = V.str "toss") = false)
  | .ask _ _ => (by decide +kernel : decide (V.str ("ask" : Str) = V.str "toss") = false)
theorem eq_look : ∀ b : Brk, decide (V.str (word b) = V.str "look") = (match b with | .look _ _ _ => true | _ => false)
  | .say _ => (by decide +kernel : decide (V.str ("say" : Str) = V.str "look") = false)
  | .toss _ => (by decide +kernel : decide (V.str ("toss" : Str) = V.str "look") = false)
  | .look _ _ _ => (by decide +kernel : decide (V.str ("look" : Str) = V.str "look") = true)
  | .ask _ _ => (by decide +kernel : decide (V.str ("ask" : Str) = V.str "look") = false)
theorem eq_ask : ∀ b : Brk, decide (V.str (word b) = V.str "ask") = (match b with | .ask _ _ => true | _ => false)
  | .say _ => (by decide +kernel : decide (V.str ("say" : Str) = V.str "ask") = false)
  | .toss _ => (by decide +kernel : decide (V.str ("toss" : Str) = V.str "ask") = false)
  | .look _ _ _ => (by decide +kernel : decide (V.str ("look" : Str) = V.str "ask") = false)
  | .ask _ _ => (by decide +kernel : decide (V.str ("ask" : Str) = V.str "ask") = true)
/-- parts are small -/
def PartsOk (ps : List Part) : Prop := ps.length ≤ 1000 ∧ ∀ p ∈ ps, p.small 9999
def sp_are_parts (K : PySem.W.Frag) : Sp := fun vs H Q _ => ∃ (a : Addr) (ps : List Part), vs = [.ref a] ∧ SqT K H a (ps.map partV) ∧ PartsOk ps ∧ ∀ H', Same H H' → Q (.bl true) H'
def okB : Brk → Prop
  | .say ps => PartsOk ps
  | .toss bs => 1 ≤ bs.length ∧ bs.length ≤ 64
  | .look i _ _ => i ≤ 9999
  | .ask ps _ => PartsOk ps
def sp_inner_plain (K : PySem.W.Frag) : Sp := fun vs H Q _ => ∃ (b : Brk) (v : V), vs = [v] ∧ BrkAt K H b v ∧ okB b ∧ ∀ p us H', Same H H' → SqT K H' p us → BrksAt K H' (kids b) us → Q (.ref p) H'
def sp_has_plain_word (K : PySem.W.Frag) : Sp := fun vs H Q _ => ∃ (b : Brk) (v : V), vs = [v] ∧ BrkAt K H b v ∧ Q (.bl true) H
theorem small9 {p : Part} (h : p.small 9) : p.small 9999 := by
  cases p with
  | lit b => trivial
  | bit i => exact Nat.le_trans (show i ≤ 9 from h) (by decide)
theorem good_okB {b : Brk} (h : b.good 9) : okB b := by
  cases b with
  | say ps =>
    rw [Brk.good] at h
    exact ⟨Nat.le_trans h.1 (by decide), fun p hp => small9 (h.2 p hp)⟩
  | toss bs =>
    rw [Brk.good] at h
    exact ⟨List.length_pos_iff.mpr h.1, Nat.le_trans h.2.1 (by decide)⟩
  | look i f s =>
    rw [Brk.good] at h
    exact Nat.le_trans h.1 (by decide)
  | ask ps n =>
    rw [Brk.good] at h
    exact ⟨Nat.le_trans h.1.1 (by decide), fun p hp => small9 (h.1.2 p hp)⟩
theorem good_kids {b : Brk} (h : b.good 9) : ∀ k ∈ kids b, k.good 9 := by
  cases b with
  | say ps => intro k hk; cases hk
  | toss bs => rw [Brk.good] at h; exact (goodL_iff bs).mp h.2.2
  | look i f s =>
    rw [Brk.good] at h
    intro k hk
    rcases List.mem_cons.mp hk with rfl | hk
    · exact h.2.1
    · rw [List.mem_singleton.mp hk]; exact h.2.2
  | ask ps n =>
    rw [Brk.good] at h
    intro k hk
    rw [List.mem_singleton.mp hk]; exact h.2
theorem nodes_kids (b : Brk) : b.nodes = 1 + sumN (kids b) Brk.nodes := by
  cases b with
  | say ps => rfl
  | toss bs => rw [Brk.nodes, nodesL_sum]; rfl
  | look i f s => rw [Brk.nodes]; simp [kids, sumN]; omega
  | ask ps n => rw [Brk.nodes]; simp [kids, sumN]
theorem depthL_mem : ∀ {bs : List Brk} {k : Brk}, k ∈ bs → k.depth ≤ depthL bs
  | b :: bs, k, h => by
    rw [depthL]
    rcases List.mem_cons.mp h with rfl | h
    · omega
    · have := depthL_mem h; omega
theorem asksL_mem : ∀ {bs : List Brk} {k : Brk}, k ∈ bs → k.asks ≤ asksL bs
  | b :: bs, k, h => by
    rw [asksL]
    rcases List.mem_cons.mp h with rfl | h
    · omega
    · have := asksL_mem h; omega
theorem depth_kids (b : Brk) : ∀ k ∈ kids b, k.depth + 1 ≤ b.depth := by
  cases b with
  | say ps => intro k hk; cases hk
  | toss bs => intro k hk; rw [Brk.depth]; have : k.depth ≤ depthL bs := depthL_mem hk; omega
  | look i f s =>
    intro k hk
    rw [Brk.depth]
    rcases List.mem_cons.mp hk with rfl | hk
    · omega
    · rw [List.mem_singleton.mp hk]; omega
  | ask ps n =>
    intro k hk
    rw [Brk.depth, List.mem_singleton.mp hk]; omega
theorem sIx1 {a b : V} {r : List V} {A : Prop} : ¬ (HT.sIx (a :: b :: r).length 0 (some 1) = 0 ∧ A) := fun z => by
  have h : HT.sIx (a :: b :: r).length 0 (some ((1 : Nat) : Int)) = 0 := z.1
  rw [HT.sIx_nat] at h
  simp at h
theorem cut1 {a : V} {r : List V} : cutV (a :: r) (some 1) none = r := by
  unfold cutV
  rw [show (some (1 : Int)) = some ((1 : Nat) : Int) from rfl, HT.sIx_nat, HT.sIx_none]
  rw [Nat.min_eq_left (by simp)]
  simp
section
variable {P : Program} {w : World} {K : PySem.W.Frag} {mg : Str → Option Value} {base : Heap}
theorem ok_are_parts (B : Bi mg) (G : Gi K mg) (D : Dfn K mg "are_parts" s_are_parts)  (c_is_bits : C8.Cal P w K mg base 1 "is_bits" sp_is_bits []) (c_is_number : C8.Cal P w K mg base 1 "is_number" sp_is_number []) : C8.Cal P w K mg base 2 "are_parts" (sp_are_parts K) [] := by
  refine D.cal sc_are_parts (fun _ _ _ _ _ _ us hl => match us, hl with | [_], _ => rfl) (fun vs H Q E h => ?_) (fun f cdv A outer s H vs Q E hr h => ?_)
  · obtain ⟨a, ps, rfl, _⟩ := h
    rfl
  obtain ⟨a, ps, rfl, hS, hp, hQ⟩ := h
  refine ⟨_, (pss_cons (ps_if (pt_not (pt_val (pe_callB call_isi (by rfl) B.isinstance (by decide +kernel) (pa_cons (pv 0) (pa_cons (pe_bltn (v := .ty "tuple") (by rfl) B.tuple (by decide +kernel) rfl) pa_nil))))) (pss_one (ps_ret pe_bl)) pss_nil)
    (pss_cons (ps_for PassesOwn.never rfl (pi_tup (pv 0)) (pg_name (i := 1) sc_are_parts.nd rfl (Or.inl rfl)) (pss_one (ps_if (PW.pt (pw_and (pt_not (pt_val (C8.pe_c c_is_bits hr (by omega) rfl (pa_cons (pv 1) (pa_cons pe_int pa_nil))))) (pw_and1 (pt_not (pt_val (C8.pe_c c_is_number hr (by omega) rfl (pa_cons (pv 1) (pa_cons pe_int (pa_cons (C8.pe_gc rfl G.g_MOST_BIT) pa_nil))))))))) (pss_one (ps_ret pe_bl)) pss_nil)))
    (pss_one (ps_ret pe_bl)))), ?_⟩
  refine ⟨_, rfl, _, _, _, _, _, rfl, .ty _, tyT hS, k_tup_tup, _, rfl, iteF ?_⟩
  refine ⟨_, rfl, a, rfl, ⟨_, hS⟩, forW (wn_tup hS) (fun i σ H' => ∃ u : Option V, σ = [some (.ref a), u] ∧ Same H H') ⟨none, rfl, Same.refl _⟩ (fun i σ H' ⟨_, _, e⟩ => e) ?_ ?_⟩
  · rintro i σ H' hi ⟨u, rfl, s1⟩
    have hi : i < ps.length := by simpa using hi
    rw [map_getD hi]
    have hsm := hp.2 ps[i] (List.getElem_mem hi)
    cases e : ps[i] with
    | lit b =>
      refine ⟨_, rfl, .inl ⟨[b], 1, rfl, by simp, fun H2 s2 => ?_⟩⟩
      exact ⟨_, rfl, iteF (iteF ⟨_, rfl, s1.trans s2⟩)⟩
    | bit j =>
      rw [e] at hsm
      refine ⟨_, rfl, .inr ⟨j, 1, rfl, _, rfl, iteT ?_⟩⟩
      refine ⟨_, rfl, j, 0, 9999, rfl, _, rfl, ?_⟩
      have : (j : Int) ≤ 9999 := by have : j ≤ 9999 := hsm; omega
      rw [decide_eq_true (by omega), decide_eq_true this]
      exact iteF ⟨_, rfl, s1⟩
  · rintro σ H' ⟨u, rfl, s1⟩
    exact hQ _ s1
theorem ok_has_plain_word (B : Bi mg) (G : Gi K mg) (D : Dfn K mg "has_plain_word" s_has_plain_word)  : C8.Cal P w K mg base 1 "has_plain_word" (sp_has_plain_word K) [] := by
  refine D.cal sc_has_plain_word (fun _ _ _ _ _ _ us hl => match us, hl with | [_], _ => rfl) (fun vs H Q E h => ?_) (fun f cdv A outer s H vs Q E hr h => ?_)
  · obtain ⟨b, v, rfl, _⟩ := h
    rfl
  obtain ⟨b, v, rfl, hb, hQ⟩ := h
  obtain ⟨a, r, rfl, hS⟩ := hb.word
  refine ⟨_, (pss_one (ps_ret (pe_and (pe_callB call_isi (by rfl) B.isinstance (by decide +kernel) (pa_cons (pv 0) (pa_cons (pe_bltn (v := .ty "tuple") (by rfl) B.tuple (by decide +kernel) rfl) pa_nil))) (pe_and (pe_cmpR op_gt (pe_callB call_len_seq (by rfl) B.len PySem.boot_len (pa_cons (pv 0) pa_nil)) pe_int (nomark _)) (pe_and (pe_callB call_isi (by rfl) B.isinstance (by decide +kernel) (pa_cons (pe_ix ix_tup (pv 0) pe_int (fun _ _ => rfl)) (pa_cons (pe_bltn (v := .ty "str") (by rfl) B.str (by decide +kernel) rfl) pa_nil))) (pe_one (pe_cmpR op_in_seq (pe_ix ix_tup (pv 0) pe_int (fun _ _ => rfl)) (C8.pe_gc rfl G.g_PLAIN_WORDS) (by rfl)))))))), ?_⟩
  refine ⟨_, rfl, _, _, _, _, _, rfl, .ty _, tyT hS, k_tup_tup, _, rfl, iteT ?_⟩
  refine ⟨_, rfl, a, _, rfl, .inr hS, _, _, rfl, rfl, _, rfl, ?_⟩
  rw [decide_eq_true (by simp)]
  refine iteT ?_
  refine ⟨_, rfl, _, _, _, _, rfl, rfl, hS, at0 _ _, _, _, _, _, _, rfl, .ty _, .base (.str _), k_str_str, _, rfl, iteT ?_⟩
  refine ⟨_, rfl, _, _, _, _, rfl, rfl, hS, at0 _ _, _, _, rfl, .inr (G.t_PLAIN_WORDS H), rfl, rfl, ?_⟩
  show Q (.bl (inV (.str (word b)) _)) H
  rw [word_in]
  exact hQ
theorem ok_inner_plain (B : Bi mg) (G : Gi K mg) (D : Dfn K mg "inner_plain" s_inner_plain)  (c_are_parts : C8.Cal P w K mg base 2 "are_parts" (sp_are_parts K) []) (c_is_number : C8.Cal P w K mg base 1 "is_number" sp_is_number []) : C8.Cal P w K mg base 3 "inner_plain" (sp_inner_plain K) [] := by
  refine D.cal sc_inner_plain (fun _ _ _ _ _ _ us hl => match us, hl with | [_], _ => rfl) (fun vs H Q E h => ?_) (fun f cdv A outer s H vs Q E hr h => ?_)
  · obtain ⟨b, v, rfl, _⟩ := h
    rfl
  obtain ⟨b, v, rfl, hb, ho, hQ⟩ := h
  refine ⟨_, (pss_cons (ps_if (PW.pt (pw_and (pt_val (pe_callB call_isi (by rfl) B.isinstance (by decide +kernel) (pa_cons (pv 0) (pa_cons (pe_bltn (v := .ty "tuple") (by rfl) B.tuple (by decide +kernel) rfl) pa_nil)))) (pw_and (pt_cmpR op_gt (pe_callB call_len_seq (by rfl) B.len PySem.boot_len (pa_cons (pv 0) pa_nil)) pe_int (nomark _)) (pw_and1 (pt_val (pe_callB call_isi (by rfl) B.isinstance (by decide +kernel) (pa_cons (pe_ix ix_tup (pv 0) pe_int (fun _ _ => rfl)) (pa_cons (pe_bltn (v := .ty "str") (by rfl) B.str (by decide +kernel) rfl) pa_nil)))))))) (pss_cons (ps_par (i := 1) (j := 2) rfl sc_inner_plain.nd rfl rfl (by decide) rfl rfl (pa_cons (pe_ix ix_tup (pv 0) pe_int (fun _ _ => rfl)) (pa_cons (pe_slice sl_tup (pv 0) (po_some pe_int) po_none) pa_nil)) (by rfl))
      (pss_cons (ps_if (PW.pt (pw_and (pt_cmpR op_eq (pv 1) pe_str (nomark _)) (pw_and (pt_cmpR op_eq (pe_callB call_len_seq (by rfl) B.len PySem.boot_len (pa_cons (pv 2) pa_nil)) pe_int (nomark _)) (pw_and1 (pt_val (C8.pe_c c_are_parts hr (by omega) rfl (pa_cons (pe_ix ix_tup (pv 2) pe_int (fun _ _ => rfl)) pa_nil))))))) (pss_one (ps_ret (pe_tup pa_nil))) pss_nil)
      (pss_cons (ps_if (PW.pt (pw_and (pt_cmpR op_eq (pv 1) pe_str (nomark _)) (pw_and (pt_cmpR op_eq (pe_callB call_len_seq (by rfl) B.len PySem.boot_len (pa_cons (pv 2) pa_nil)) pe_int (nomark _)) (pw_and (pt_val (pe_callB call_isi (by rfl) B.isinstance (by decide +kernel) (pa_cons (pe_ix ix_tup (pv 2) pe_int (fun _ _ => rfl)) (pa_cons (pe_bltn (v := .ty "tuple") (by rfl) B.tuple (by decide +kernel) rfl) pa_nil)))) (pw_and1 (pt_chain op_le op_le pe_int (pe_callB call_len_seq (by rfl) B.len PySem.boot_len (pa_cons (pe_ix ix_tup (pv 2) pe_int (fun _ _ => rfl)) pa_nil)) (C8.pe_gc rfl G.g_MOST_TOSSED))))))) (pss_one (ps_ret (pe_ix ix_tup (pv 2) pe_int (fun _ _ => rfl)))) pss_nil)
      (pss_cons (ps_if (PW.pt (pw_and (pt_cmpR op_eq (pv 1) pe_str (nomark _)) (pw_and (pt_cmpR op_eq (pe_callB call_len_seq (by rfl) B.len PySem.boot_len (pa_cons (pv 2) pa_nil)) pe_int (nomark _)) (pw_and1 (pt_val (C8.pe_c c_is_number hr (by omega) rfl (pa_cons (pe_ix ix_tup (pv 2) pe_int (fun _ _ => rfl)) (pa_cons pe_int (pa_cons (C8.pe_gc rfl G.g_MOST_BIT) pa_nil))))))))) (pss_one (ps_ret (pe_slice sl_tup (pv 2) (po_some pe_int) po_none))) pss_nil)
      (pss_one (ps_if (PW.pt (pw_and (pt_cmpR op_eq (pv 1) pe_str (nomark _)) (pw_and (pt_cmpR op_eq (pe_callB call_len_seq (by rfl) B.len PySem.boot_len (pa_cons (pv 2) pa_nil)) pe_int (nomark _)) (pw_and1 (pt_val (C8.pe_c c_are_parts hr (by omega) rfl (pa_cons (pe_ix ix_tup (pv 2) pe_int (fun _ _ => rfl)) pa_nil))))))) (pss_one (ps_ret (pe_slice sl_tup (pv 2) (po_some pe_int) po_none))) pss_nil)))))) pss_nil)
    (pss_one ps_never)), ?_⟩
  cases b with
  | say ps =>
    obtain ⟨a, p, rfl, h1, h2⟩ := hb
    refine ⟨_, rfl, _, _, _, _, _, rfl, .ty _, tyT h1, k_tup_tup, _, rfl, iteT ?_⟩
    refine ⟨_, rfl, a, _, rfl, .inr h1, _, _, rfl, rfl, _, rfl, iteT ?_⟩
    refine ⟨_, rfl, _, _, _, _, rfl, rfl, h1, at0 _ _, _, _, _, _, _, rfl, .ty _, .base (.str _), k_str_str, _, rfl, iteT ?_⟩
    refine ⟨_, rfl, _, _, _, _, rfl, rfl, h1, at0 _ _, _, rfl, _, rfl, a, _, rfl, h1, sIx1, fun r hr1 => ?_⟩
    rw [cut1] at *
    have s1 : Same H (upd H r (.tup [.ref p])) := Same.new hr1
    have hr2 : SqT K (upd H r (.tup [.ref p])) r [.ref p] := .inl (.inl upd_same)
    refine ⟨_, _, rfl, ?_⟩
    refine ⟨_, rfl, rfl, _, rfl, ?_⟩
    dsimp only
    rw [w_say_say]
    refine iteT ?_
    refine ⟨_, rfl, r, _, rfl, .inr hr2, rfl, _, rfl, iteT ?_⟩
    refine ⟨_, rfl, _, _, _, _, rfl, rfl, hr2, at0 _ _, p, ps, rfl, s1.tup h2, ho, fun H2 s2 => ⟨_, rfl, iteT ?_⟩⟩
    refine ⟨Nat.zero_le _, fun q hq => ?_⟩
    exact hQ q [] _ (s1.trans (s2.trans (Same.new hq))) (.inl (.inl upd_same)) rfl
  | toss bs =>
    obtain ⟨a, p, us, rfl, h1, h2, h3⟩ := hb
    refine ⟨_, rfl, _, _, _, _, _, rfl, .ty _, tyT h1, k_tup_tup, _, rfl, iteT ?_⟩
    refine ⟨_, rfl, a, _, rfl, .inr h1, _, _, rfl, rfl, _, rfl, iteT ?_⟩
    refine ⟨_, rfl, _, _, _, _, rfl, rfl, h1, at0 _ _, _, _, _, _, _, rfl, .ty _, .base (.str _), k_str_str, _, rfl, iteT ?_⟩
    refine ⟨_, rfl, _, _, _, _, rfl, rfl, h1, at0 _ _, _, rfl, _, rfl, a, _, rfl, h1, sIx1, fun r hr1 => ?_⟩
    rw [cut1] at *
    have s1 : Same H (upd H r (.tup [.ref p])) := Same.new hr1
    have hr2 : SqT K (upd H r (.tup [.ref p])) r [.ref p] := .inl (.inl upd_same)
    refine ⟨_, _, rfl, ?_⟩
    refine ⟨_, rfl, rfl, _, rfl, ?_⟩
    dsimp only
    rw [w_toss_say]
    refine iteF (iteF ?_)
    refine ⟨_, rfl, rfl, _, rfl, ?_⟩
    dsimp only
    rw [w_toss_toss]
    refine iteT ?_
    refine ⟨_, rfl, r, _, rfl, .inr hr2, rfl, _, rfl, iteT ?_⟩
    refine ⟨_, rfl, _, _, _, _, rfl, rfl, hr2, at0 _ _, _, _, _, _, _, rfl, .ty _, tyT (s1.tup h2), k_tup_tup, _, rfl, iteT ?_⟩
    have hl := (h3.get).1
    refine ⟨_, rfl, _, _, _, _, rfl, rfl, hr2, at0 _ _, p, _, rfl, .inr (s1.tup h2), _, _, rfl, rfl, _, rfl, ?_⟩
    rw [decide_eq_true (by have := ho.1; omega)]
    refine iteT ?_
    refine ⟨_, _, rfl, rfl, _, rfl, ?_⟩
    rw [decide_eq_true (by have := ho.2; omega)]
    refine iteT ?_
    refine ⟨_, rfl, _, _, _, _, rfl, rfl, hr2, at0 _ _, ?_⟩
    exact hQ p us _ s1 (s1.tup h2) (h3.tm s1.tm)
  | look i f2 s2 =>
    obtain ⟨a, u, v, rfl, h1, h2, h3⟩ := hb
    refine ⟨_, rfl, _, _, _, _, _, rfl, .ty _, tyT h1, k_tup_tup, _, rfl, iteT ?_⟩
    refine ⟨_, rfl, a, _, rfl, .inr h1, _, _, rfl, rfl, _, rfl, iteT ?_⟩
    refine ⟨_, rfl, _, _, _, _, rfl, rfl, h1, at0 _ _, _, _, _, _, _, rfl, .ty _, .base (.str _), k_str_str, _, rfl, iteT ?_⟩
    refine ⟨_, rfl, _, _, _, _, rfl, rfl, h1, at0 _ _, _, rfl, _, rfl, a, _, rfl, h1, sIx1, fun r hr1 => ?_⟩
    rw [cut1] at *
    have s1 : Same H (upd H r (.tup [.int i, u, v])) := Same.new hr1
    have hr2 : SqT K (upd H r (.tup [.int i, u, v])) r [.int i, u, v] := .inl (.inl upd_same)
    refine ⟨_, _, rfl, ?_⟩
    refine ⟨_, rfl, rfl, _, rfl, ?_⟩
    dsimp only
    rw [w_look_say]
    refine iteF (iteF ?_)
    refine ⟨_, rfl, rfl, _, rfl, ?_⟩
    dsimp only
    rw [w_look_toss]
    refine iteF (iteF ?_)
    refine ⟨_, rfl, rfl, _, rfl, ?_⟩
    dsimp only
    rw [w_look_look]
    refine iteT ?_
    refine ⟨_, rfl, r, _, rfl, .inr hr2, rfl, _, rfl, iteT ?_⟩
    have ho : i ≤ 9999 := ho
    refine ⟨_, rfl, _, _, _, _, rfl, rfl, hr2, at0 _ _, i, 0, 9999, rfl, _, rfl, ?_⟩
    rw [decide_eq_true (by omega), decide_eq_true (by omega)]
    refine iteT ?_
    refine ⟨_, rfl, _, rfl, r, _, rfl, hr2, sIx1, fun q hq => ?_⟩
    rw [cut1]
    exact hQ q [u, v] _ (s1.trans (Same.new hq)) (.inl (.inl upd_same)) ⟨u, [v], rfl, h2.tm (s1.trans (Same.new hq)).tm, v, [], rfl, h3.tm (s1.trans (Same.new hq)).tm, rfl⟩
  | ask ps n =>
    obtain ⟨a, p, u, rfl, h1, h2, h3⟩ := hb
    refine ⟨_, rfl, _, _, _, _, _, rfl, .ty _, tyT h1, k_tup_tup, _, rfl, iteT ?_⟩
    refine ⟨_, rfl, a, _, rfl, .inr h1, _, _, rfl, rfl, _, rfl, iteT ?_⟩
    refine ⟨_, rfl, _, _, _, _, rfl, rfl, h1, at0 _ _, _, _, _, _, _, rfl, .ty _, .base (.str _), k_str_str, _, rfl, iteT ?_⟩
    refine ⟨_, rfl, _, _, _, _, rfl, rfl, h1, at0 _ _, _, rfl, _, rfl, a, _, rfl, h1, sIx1, fun r hr1 => ?_⟩
    rw [cut1] at *
    have s1 : Same H (upd H r (.tup [.ref p, u])) := Same.new hr1
    have hr2 : SqT K (upd H r (.tup [.ref p, u])) r [.ref p, u] := .inl (.inl upd_same)
    refine ⟨_, _, rfl, ?_⟩
    refine ⟨_, rfl, rfl, _, rfl, ?_⟩
    dsimp only
    rw [w_ask_say]
    refine iteF (iteF ?_)
    refine ⟨_, rfl, rfl, _, rfl, ?_⟩
    dsimp only
    rw [w_ask_toss]
    refine iteF (iteF ?_)
    refine ⟨_, rfl, rfl, _, rfl, ?_⟩
    dsimp only
    rw [w_ask_look]
    refine iteF (iteF ?_)
    refine ⟨_, rfl, rfl, _, rfl, ?_⟩
    dsimp only
    rw [w_ask_ask]
    refine iteT ?_
    refine ⟨_, rfl, r, _, rfl, .inr hr2, rfl, _, rfl, iteT ?_⟩
    refine ⟨_, rfl, _, _, _, _, rfl, rfl, hr2, at0 _ _, p, ps, rfl, s1.tup h2, ho, fun H2 s2 => ⟨_, rfl, iteT ?_⟩⟩
    refine ⟨_, rfl, _, rfl, r, _, rfl, s2.tup hr2, sIx1, fun q hq => ?_⟩
    rw [cut1]
    exact hQ q [u] _ (s1.trans (s2.trans (Same.new hq))) (.inl (.inl upd_same)) ⟨u, [], rfl, h3.tm (s1.trans (s2.trans (Same.new hq))).tm, rfl⟩
end
/-! ### a stack of breakers with a number each -/
def ItAt (K : PySem.W.Frag) (H : Hp) (v : V) (p : Brk × Nat) : Prop := ∃ t u, v = .ref t ∧ SqT K H t [u, .int p.2] ∧ BrkAt K H p.1 u
def StkAt (K : PySem.W.Frag) (H : Hp) (xs : List V) (S : List (Brk × Nat)) : Prop := xs.length = S.length ∧ ∀ (i : Nat) (v : V) (p : Brk × Nat), xs[i]? = some v → S[i]? = some p → ItAt K H v p
theorem ItAt.tm {K : PySem.W.Frag} {H H' : Hp} {v : V} {p : Brk × Nat} (t : Tm K H H') (h : ItAt K H v p) : ItAt K H' v p := by
  obtain ⟨a, u, e, h1, h2⟩ := h
  exact ⟨a, u, e, t _ _ h1, h2.tm t⟩
theorem StkAt.tm {K : PySem.W.Frag} {H H' : Hp} {xs : List V} {S : List (Brk × Nat)} (t : Tm K H H') (h : StkAt K H xs S) : StkAt K H' xs S := ⟨h.1, fun i v p a b => (h.2 i v p a b).tm t⟩
theorem StkAt.one {K : PySem.W.Frag} {H : Hp} {v : V} {p : Brk × Nat} (h : ItAt K H v p) : StkAt K H [v] [p] := ⟨rfl, fun i u q a b => by
  cases i with
  | zero => cases a; cases b; exact h
  | succ i => simp at a⟩
theorem StkAt.app {K : PySem.W.Frag} {H : Hp} {xs ys : List V} {S T : List (Brk × Nat)} (h : StkAt K H xs S) (k : StkAt K H ys T) : StkAt K H (xs ++ ys) (S ++ T) := by
  refine ⟨by rw [List.length_append, List.length_append, h.1, k.1], fun i v p a b => ?_⟩
  by_cases hi : i < xs.length
  · rw [List.getElem?_append_left hi] at a
    rw [List.getElem?_append_left (by rw [← h.1]; exact hi)] at b
    exact h.2 i v p a b
  · rw [List.getElem?_append_right (by omega)] at a
    rw [List.getElem?_append_right (by rw [← h.1]; omega), ← h.1] at b
    exact k.2 _ v p a b
theorem StkAt.snoc {K : PySem.W.Frag} {H : Hp} {xs : List V} {S : List (Brk × Nat)} (h : StkAt K H xs S) (hx : 0 < xs.length) :
    ∃ y S' p, xs[xs.length - 1]? = some y ∧ S = S' ++ [p] ∧ StkAt K H xs.dropLast S' ∧ ItAt K H y p := by
  have hS : S ≠ [] := by
    intro e
    have := h.1
    rw [e] at this
    simp at this
    rw [this] at hx
    simp at hx
  have e : S = S.dropLast ++ [S.getLast hS] := (List.dropLast_concat_getLast hS).symm
  have hl : S.dropLast.length = xs.length - 1 := by rw [List.length_dropLast, h.1]
  have hy : xs[xs.length - 1]? = some xs[xs.length - 1] := List.getElem?_eq_getElem (by omega)
  refine ⟨_, S.dropLast, S.getLast hS, hy, e, ⟨by rw [hl, List.length_dropLast], fun i v p a b => ?_⟩, ?_⟩
  · rw [List.getElem?_dropLast] at a b
    split at a
    · split at b
      · exact h.2 i v p a b
      · cases b
    · cases a
  · refine h.2 (xs.length - 1) _ _ hy ?_
    have hp := List.length_pos_iff.mpr hS
    rw [h.1, List.getLast_eq_getElem]
    exact List.getElem?_eq_getElem (by omega)
/-- what the kids of a breaker make of a stack -/
theorem StkAt.kids {K : PySem.W.Frag} {H : Hp} {ys us : List V} {bs : List Brk} {d : Nat} (hb : BrksAt K H bs us) (hl : ys.length = us.length) (hR : ∀ (i : Nat) (y : V), ys[i]? = some y → ∃ t, y = .ref t ∧ SqT K H t [us.getD i .non, .int (d : Nat)]) :
    StkAt K H ys (bs.map fun b => (b, d)) := by
  obtain ⟨l, g⟩ := hb.get
  refine ⟨by rw [List.length_map, l, hl], fun i v p a b => ?_⟩
  obtain ⟨t, e, h1⟩ := hR i v a
  rw [List.getElem?_map] at b
  cases q : bs[i]? with
  | none => rw [q] at b; cases b
  | some c =>
    rw [q] at b
    cases b
    have hi : i < us.length := by rw [← l]; exact (List.getElem?_eq_some_iff.mp q).1
    rw [List.getD_eq_getElem?_getD, List.getElem?_eq_getElem hi] at h1
    exact ⟨t, us[i], e, h1, g i c _ q (List.getElem?_eq_getElem hi)⟩
def sp_check_plain (K : PySem.W.Frag) : Sp := fun vs H Q _ => ∃ (b : Brk) (v : V), vs = [v] ∧ BrkAt K H b v ∧ b.good 9 ∧ b.depth ≤ 60 ∧ b.nodes ≤ 2000 ∧ ∀ H', Same H H' → Q .non H'
def sp_check_breaker (K : PySem.W.Frag) : Sp := sp_check_plain K
def sp_is_plain (K : PySem.W.Frag) : Sp := fun vs H Q _ => ∃ (b : Brk) (v : V), vs = [v] ∧ BrkAt K H b v ∧ b.good 9 ∧ b.depth ≤ 60 ∧ b.nodes ≤ 2000 ∧ ∀ H', Same H H' → Q (.bl true) H'
def sp_most_plain_asks (K : PySem.W.Frag) : Sp := fun vs H Q _ => ∃ (b : Brk) (v : V), vs = [v] ∧ BrkAt K H b v ∧ b.good 9 ∧ b.depth ≤ 60 ∧ b.nodes ≤ 2000 ∧ ∀ (m : Nat) H', m ≤ b.asks → Same H H' → Q (.int m) H'
def sp_most_asks (K : PySem.W.Frag) : Sp := sp_most_plain_asks K
def askN : Brk → Nat
  | .ask _ _ => 1
  | _ => 0
theorem askN_eq : ∀ b : Brk, (if decide (V.str (word b) = V.str "ask") = true then (1 : Int) else 0) = ((askN b : Nat) : Int) := fun b => by
  rw [eq_ask]
  cases b <;> rfl
theorem ask_kids {b : Brk} {a A : Nat} (h : a + b.asks ≤ A) : ∀ k ∈ kids b, a + askN b + k.asks ≤ A := by
  cases b with
  | say ps => intro k hk; cases hk
  | toss bs =>
    intro k hk
    rw [Brk.asks] at h
    have : k.asks ≤ asksL bs := asksL_mem hk
    show a + 0 + k.asks ≤ A
    omega
  | look i f s =>
    intro k hk
    rw [Brk.asks] at h
    show a + 0 + k.asks ≤ A
    rcases List.mem_cons.mp hk with rfl | hk
    · omega
    · rw [List.mem_singleton.mp hk]; omega
  | ask ps n =>
    intro k hk
    rw [Brk.asks] at h
    show a + 1 + k.asks ≤ A
    rw [List.mem_singleton.mp hk]; omega
theorem ask_self {b : Brk} {a A : Nat} (h : a + b.asks ≤ A) : a + askN b ≤ A := by
  cases b with
  | ask ps n => rw [Brk.asks] at h; show a + 1 ≤ A; omega
  | _ => show a + 0 ≤ A; omega
theorem nodes_pos (b : Brk) : 1 ≤ b.nodes := by rw [nodes_kids]; omega
theorem sumN_ge {α : Type} (l : List α) (f : α → Nat) (h : ∀ a ∈ l, 1 ≤ f a) : l.length ≤ sumN l f := by
  induction l with
  | nil => simp [sumN]
  | cons a l ih =>
    rw [sumN_cons, List.length_cons]
    have := h a (List.mem_cons_self ..)
    have := ih fun b hb => h b (List.mem_cons_of_mem _ hb)
    omega
theorem sumN_kids (bs : List Brk) (d : Nat) : sumN (bs.map fun b => (b, d)) (fun p : Brk × Nat => p.1.nodes) = sumN bs Brk.nodes := sumN_map _ _ _
section
variable {P : Program} {w : World} {K : PySem.W.Frag} {mg : Str → Option Value} {base : Heap}
theorem ok_check_plain (B : Bi mg) (G : Gi K mg) (D : Dfn K mg "check_plain" s_check_plain)  (c_inner_plain : C8.Cal P w K mg base 3 "inner_plain" (sp_inner_plain K) []) : C8.Cal P w K mg base 4 "check_plain" (sp_check_plain K) [] := by
  refine D.cal sc_check_plain (fun _ _ _ _ _ _ us hl => match us, hl with | [_], _ => rfl) (fun vs H Q E h => ?_) (fun f cdv A outer s H vs Q E hr h => ?_)
  · obtain ⟨b, v, rfl, _⟩ := h
    rfl
  obtain ⟨b, v, rfl, hb, hg, hd, hn, hQ⟩ := h
  refine ⟨_, (pss_cons (ps_set (i := 1) sc_check_plain.nd rfl (Or.inl rfl) (pe_lst (pa_cons (pe_tup (pa_cons (pv 0) (pa_cons pe_int pa_nil))) pa_nil)))
    (pss_cons (ps_set (i := 2) sc_check_plain.nd rfl (Or.inl rfl) pe_int)
    (pss_one (ps_while PassesOwn.never (pt_cmpR op_gt (pe_callB call_len_seq (by rfl) B.len PySem.boot_len (pa_cons (pv 1) pa_nil)) pe_int (nomark _)) (pss_cons (ps_asg (pe_bm0 PySem.F.plainAttrs_list PySem.F.slot_list_pop PySem.F.type_list_pop mt_pop (pv 1)) (pg_tup rfl (pgs_cons (pg_name (i := 3) sc_check_plain.nd rfl (Or.inl rfl)) (pgs_cons (pg_name (i := 4) sc_check_plain.nd rfl (Or.inr rfl)) pgs_nil))))
      (pss_cons (ps_set (i := 5) sc_check_plain.nd rfl (Or.inl rfl) (C8.pe_c c_inner_plain hr (by omega) rfl (pa_cons (pv 3) pa_nil)))
      (pss_cons (ps_aug (i := 2) sc_check_plain.nd rfl (.inl rfl) (pe_callB call_len_seq (by rfl) B.len PySem.boot_len (pa_cons (pv 5) pa_nil)) ip_add)
      (pss_cons (ps_if (PW.pt (pw_or (pt_cmpR op_gt (pv 4) (C8.pe_gc rfl G.g_MOST_DEPTH) (nomark _)) (pw_or1 (pt_cmpR op_gt (pv 2) (C8.pe_gc rfl G.g_MOST_WITHIN) (nomark _))))) (pss_one ps_never) pss_nil)
      (pss_one (ps_expr (pe_bm PySem.F.plainAttrs_list PySem.F.slot_list_extend PySem.F.type_list_extend mt_extend (pv 1) (pa_cons (pe_lc (own := [("other", 6)]) (g := (gName 6)) (tt := tYes) rfl sc_check_plain.nd (pi_tup (pv 5)) (blkOk_by (own := [("other", 6)]) (N := ["breaker", "waiting", "within", "one", "depth", "inner", "other"]) (sc := defScope s_check_plain) (by decide +kernel)) (fun _ _ _ _ _ => (pg_name (i := 6) sc_check_plain.nd rfl (Or.inl rfl))) (fun _ _ _ _ _ => pts_nil) (fun _ _ _ _ _ => (pe_tup (pa_cons (pv 6) (pa_cons (pe_op op_add (pv 4) pe_int) pa_nil))))) pa_nil)))))))))))), ?_⟩
  refine ⟨_, rfl, (by show 2 ≤ sizeLine; decide), fun t ht => ⟨(by show 1 ≤ sizeLine; decide), fun l hl => ?_⟩⟩
  have htl : t ≠ l := fun e => by rw [e] at ht; rw [e, upd_same] at hl; cases hl
  have s0 : Same H (upd (upd H t (.tup [v, .int 1])) l (.lst [.ref t])) := (Same.new ht).trans (Same.new hl)
  have hl0 : H l = none := by rw [upd_ne htl.symm] at hl; exact hl
  refine ⟨fun m σ H' => ∃ (xs : List V) (S : List (Brk × Nat)) (wi : Nat) (o1 o2 o3 o4 : Option V), σ = [some v, some (.ref l), some (.int wi), o1, o2, o3, o4] ∧ Same H H' ∧ H' l = some (.lst xs) ∧ StkAt K H' xs S ∧
      (∀ p ∈ S, p.1.good 9 ∧ p.2 + p.1.depth ≤ 61) ∧ wi + sumN S (fun p => p.1.nodes) + 1 = b.nodes + S.length ∧ S.length ≤ wi + 1 ∧ m = sumN S (fun p => p.1.nodes), ⟨_, [.ref t], [(b, 1)], 0, none, none, none, none, rfl, s0, upd_same, .one ⟨t, v, rfl, .inl (.inl (by rw [upd_ne htl, upd_same]; rfl)), hb.tm s0.tm⟩, ?_, ?_, Nat.le_refl _, rfl⟩, ?_⟩
  · intro p hp
    rw [List.mem_singleton.mp hp]
    exact ⟨hg, by show 1 + b.depth ≤ 61; omega⟩
  · simp [sumN]
  rintro m σ H' ⟨xs, S, wi, o1, o2, o3, o4, rfl, s1, hL, hS, hP, hw, hsz, rfl⟩
  refine ⟨_, rfl, l, _, rfl, .inl (.inl (.inl hL)), _, _, rfl, rfl, _, rfl, ?_⟩
  refine ite2 (fun c => ?_) (fun c => ?_)
  · have hx : 0 < xs.length := by have := of_decide_eq_true c; omega
    obtain ⟨y, S', p, hy, rfl, hS', ⟨t1, u1, rfl, ht1, hb1⟩⟩ := hS.snoc hx
    have hp := hP p (by simp)
    have dp := depth_pos p.1
    have e1 : sumN (S' ++ [p]) (fun q => q.1.nodes) = sumN S' (fun q => q.1.nodes) + (1 + sumN (kids p.1) Brk.nodes) := by
      rw [sumN_append, sumN_cons, ← nodes_kids]; rfl
    have e2 := sumN_ge S' (fun q => q.1.nodes) fun q _ => nodes_pos q.1
    have e3 := sumN_ge (kids p.1) Brk.nodes fun q _ => nodes_pos q
    rw [e1, List.length_append, List.length_singleton] at hw
    rw [List.length_append, List.length_singleton] at hsz
    have tm2 : Tm K H' (upd H' l (.lst xs.dropLast)) := Tm.lst hL
    have s2 : Same H (upd H' l (.lst xs.dropLast)) := s1.mut hl0
    refine ⟨_, fun _ _ n => n, ?_⟩
    refine ⟨_, rfl, .inl ⟨rfl, _, .inl (.inl hL)⟩, l, xs, _, rfl, rfl, hL, hy, t1, _, rfl, tm2 _ _ ht1, rfl, _, _, rfl, _, _, rfl, rfl, ?_⟩
    refine ⟨_, rfl, p.1, u1, rfl, hb1.tm tm2, good_okB hp.1, fun r us H3 s3 hr3 hk3 => ?_⟩
    have hkl := hk3.get.1
    refine ⟨_, rfl, _, rfl, r, _, rfl, .inr hr3, _, _, rfl, rfl, ?_⟩
    refine ⟨_, rfl, _, _, rfl, rfl, _, rfl, ?_⟩
    rw [decide_eq_false (by omega)]
    refine iteF ?_
    refine ⟨_, rfl, _, _, rfl, rfl, _, rfl, ?_⟩
    dsimp only
    rw [decide_eq_false (by omega)]
    refine iteF ?_
    have hL3 : H3 l = some (.lst xs.dropLast) := s3 _ _ upd_same
    refine ⟨_, rfl, .inl ⟨rfl, _, .inl (.inl hL3)⟩, ?_⟩
    refine ⟨_, rfl, r, rfl, ⟨_, hr3⟩, fun Dc hDc => lcN K (wn_tup hr3) hDc (by omega) (fun i y Hy => ∃ t, y = .ref t ∧ SqT K Hy t [us.getD i .non, .int ((p.2 + 1 : Nat) : Int)]) ?_ ?_ ?_⟩
    · rintro i y Ha Hb tm ⟨t, rfl, q⟩
      exact ⟨t, rfl, tm _ _ q⟩
    · intro i H4 hi s4 W hW
      refine ⟨_, rfl, _, rfl, _, _, rfl, rfl, (by show 2 ≤ sizeLine; decide), fun t ht => ?_⟩
      refine hW _ _ (Same.new ht) ⟨t, rfl, .inl (.inl ?_)⟩
      rw [upd_same]
      rfl
    · intro H4 ys s4 hDL hyl hR
      have hL4 : H4 l = some (.lst xs.dropLast) := s4 _ _ hL3
      have hlen := hS'.1
      refine ⟨l, Dc, _, _, rfl, rfl, hL4, hDL, ?_, ?_⟩
      · exact szl (by omega)
      have tm5 : Tm K H4 (upd H4 l (.lst (xs.dropLast ++ ys))) := Tm.lst hL4
      refine ⟨_, ?_, xs.dropLast ++ ys, S' ++ (kids p.1).map (fun k => (k, p.2 + 1)), wi + us.length, _, _, _, _, rfl, ((s2.trans s3).trans s4).mut hl0, upd_same, ?_, ?_, ?_, ?_, rfl⟩
      · rw [e1, sumN_append, sumN_kids]; omega
      · refine StkAt.app ((((hS'.tm tm2).tm s3.tm).tm s4.tm).tm tm5) ?_
        refine StkAt.kids ((hk3.tm s4.tm).tm tm5) hyl fun i y e => ?_
        obtain ⟨t, e', q⟩ := hR i y e
        exact ⟨t, e', tm5 _ _ q⟩
      · intro q hq
        rcases List.mem_append.mp hq with hq | hq
        · exact hP q (by simp [hq])
        · obtain ⟨k, hk, rfl⟩ := List.mem_map.mp hq
          have := depth_kids p.1 k hk
          exact ⟨good_kids hp.1 k hk, by show p.2 + 1 + k.depth ≤ 61; omega⟩
      · rw [sumN_append, sumN_kids, List.length_append, List.length_map, hkl]
        omega
      · rw [List.length_append, List.length_map, hkl]
        omega
  · exact hQ _ s1
theorem ok_check_breaker (B : Bi mg) (G : Gi K mg) (D : Dfn K mg "check_breaker" s_check_breaker)  (c_has_plain_word : C8.Cal P w K mg base 1 "has_plain_word" (sp_has_plain_word K) []) (c_check_plain : C8.Cal P w K mg base 4 "check_plain" (sp_check_plain K) []) : C8.Cal P w K mg base 5 "check_breaker" (sp_check_breaker K) [] := by
  refine D.cal sc_check_breaker (fun _ _ _ _ _ _ us hl => match us, hl with | [_], _ => rfl) (fun vs H Q E h => ?_) (fun f cdv A outer s H vs Q E hr h => ?_)
  · obtain ⟨b, v, rfl, _⟩ := h
    rfl
  obtain ⟨b, v, rfl, hb, hg, hd, hn, hQ⟩ := h
  refine ⟨_, (pss_cons (ps_set (i := 1) sc_check_breaker.nd rfl (Or.inl rfl) pe_int)
    (pss_cons (ps_set (i := 2) sc_check_breaker.nd rfl (Or.inl rfl) pe_non)
    (pss_cons (ps_while PassesOwn.never (pt_not (pt_val (C8.pe_c c_has_plain_word hr (by omega) rfl (pa_cons (pv 0) pa_nil)))) (pss_cons ps_never (pss_cons ps_never (pss_cons ps_never (pss_cons ps_never (pss_one ps_never))))))
    (pss_one (ps_expr (C8.pe_c c_check_plain hr (by omega) rfl (pa_cons (pv 0) pa_nil))))))), ?_⟩
  refine ⟨fun m σ H' => σ = [some v, some (.int 0), some .non] ∧ H' = H, ⟨0, rfl, rfl⟩, ?_⟩
  rintro m σ H' ⟨rfl, rfl⟩
  refine ⟨_, rfl, b, v, rfl, hb, _, rfl, iteF ?_⟩
  exact ⟨_, rfl, b, v, rfl, hb, hg, hd, hn, hQ⟩
theorem ok_is_plain (B : Bi mg) (G : Gi K mg) (D : Dfn K mg "is_plain" s_is_plain)  (c_has_plain_word : C8.Cal P w K mg base 1 "has_plain_word" (sp_has_plain_word K) []) (c_check_breaker : C8.Cal P w K mg base 5 "check_breaker" (sp_check_breaker K) []) : C8.Cal P w K mg base 6 "is_plain" (sp_is_plain K) [] := by
  refine D.cal sc_is_plain (fun _ _ _ _ _ _ us hl => match us, hl with | [_], _ => rfl) (fun vs H Q E h => ?_) (fun f cdv A outer s H vs Q E hr h => ?_)
  · obtain ⟨b, v, rfl, _⟩ := h
    rfl
  obtain ⟨b, v, rfl, hb, hg, hd, hn, hQ⟩ := h
  refine ⟨_, (pss_cons (ps_expr (C8.pe_c c_check_breaker hr (by omega) rfl (pa_cons (pv 0) pa_nil)))
    (pss_one (ps_ret (C8.pe_c c_has_plain_word hr (by omega) rfl (pa_cons (pv 0) pa_nil))))), ?_⟩
  exact ⟨_, rfl, b, v, rfl, hb, hg, hd, hn, fun H1 s1 => ⟨_, rfl, b, v, rfl, hb.tm s1.tm, hQ _ s1⟩⟩
theorem ok_most_plain_asks (B : Bi mg) (G : Gi K mg) (D : Dfn K mg "most_plain_asks" s_most_plain_asks)  (c_inner_plain : C8.Cal P w K mg base 3 "inner_plain" (sp_inner_plain K) []) : C8.Cal P w K mg base 4 "most_plain_asks" (sp_most_plain_asks K) [] := by
  refine D.cal sc_most_plain_asks (fun _ _ _ _ _ _ us hl => match us, hl with | [_], _ => rfl) (fun vs H Q E h => ?_) (fun f cdv A outer s H vs Q E hr h => ?_)
  · obtain ⟨b, v, rfl, _⟩ := h
    rfl
  obtain ⟨b, v, rfl, hb, hg, hd, hn, hQ⟩ := h
  refine ⟨_, (pss_cons (ps_set (i := 1) sc_most_plain_asks.nd rfl (Or.inl rfl) pe_int)
    (pss_cons (ps_set (i := 2) sc_most_plain_asks.nd rfl (Or.inl rfl) (pe_lst (pa_cons (pe_tup (pa_cons (pv 0) (pa_cons pe_int pa_nil))) pa_nil)))
    (pss_cons (ps_while PassesOwn.never (pt_cmpR op_gt (pe_callB call_len_seq (by rfl) B.len PySem.boot_len (pa_cons (pv 2) pa_nil)) pe_int (nomark _)) (pss_cons (ps_asg (pe_bm0 PySem.F.plainAttrs_list PySem.F.slot_list_pop PySem.F.type_list_pop mt_pop (pv 2)) (pg_tup rfl (pgs_cons (pg_name (i := 3) sc_most_plain_asks.nd rfl (Or.inr rfl)) (pgs_cons (pg_name (i := 4) sc_most_plain_asks.nd rfl (Or.inr rfl)) pgs_nil))))
      (pss_cons (ps_set (i := 1) sc_most_plain_asks.nd rfl (Or.inl rfl) (pe_callB (call_max2 rfl) (by rfl) B.max (by decide +kernel) (pa_cons (pv 1) (pa_cons (pe_op op_add (pv 4) (pe_callTy call_int1 (by rfl) B.int (by decide +kernel) (pa_cons (pe_cmpR op_eq (pe_ix ix_tup (pv 3) pe_int (fun _ _ => rfl)) pe_str (nomark _)) pa_nil))) pa_nil))))
      (pss_one (ps_expr (pe_bm PySem.F.plainAttrs_list PySem.F.slot_list_extend PySem.F.type_list_extend mt_extend (pv 2) (pa_cons (pe_lc (own := [("inner", 5)]) (g := (gName 5)) (tt := tYes) rfl sc_most_plain_asks.nd (pi_tup (C8.pe_c c_inner_plain hr (by omega) rfl (pa_cons (pv 3) pa_nil))) (blkOk_by (own := [("inner", 5)]) (N := ["breaker", "most", "waiting", "one", "asks", "inner"]) (sc := defScope s_most_plain_asks) (by decide +kernel)) (fun _ _ _ _ _ => (pg_name (i := 5) sc_most_plain_asks.nd rfl (Or.inl rfl))) (fun _ _ _ _ _ => pts_nil) (fun _ _ _ _ _ => (pe_tup (pa_cons (pv 5) (pa_cons (pe_op op_add (pv 4) (pe_callTy call_int1 (by rfl) B.int (by decide +kernel) (pa_cons (pe_cmpR op_eq (pe_ix (show IxR _ (rIxT K) from ix_tup) (pv 3) pe_int (fun _ _ => rfl)) pe_str (nomark _)) pa_nil))) pa_nil))))) pa_nil)))))))
    (pss_one (ps_ret (pv 1)))))), ?_⟩
  refine ⟨_, rfl, (by show 2 ≤ sizeLine; decide), fun t ht => ⟨(by show 1 ≤ sizeLine; decide), fun l hl => ?_⟩⟩
  have htl : t ≠ l := fun e => by rw [e] at ht; rw [e, upd_same] at hl; cases hl
  have s0 : Same H (upd (upd H t (.tup [v, .int 0])) l (.lst [.ref t])) := (Same.new ht).trans (Same.new hl)
  have hl0 : H l = none := by rw [upd_ne htl.symm] at hl; exact hl
  refine ⟨fun m σ H' => ∃ (xs : List V) (S : List (Brk × Nat)) (mo wi : Nat) (o1 o2 o3 : Option V), σ = [some v, some (.int mo), some (.ref l), o1, o2, o3] ∧ Same H H' ∧ H' l = some (.lst xs) ∧ StkAt K H' xs S ∧ mo ≤ b.asks ∧
      (∀ p ∈ S, p.1.good 9 ∧ p.2 + p.1.asks ≤ b.asks) ∧ wi + sumN S (fun p => p.1.nodes) + 1 = b.nodes + S.length ∧ S.length ≤ wi + 1 ∧ m = sumN S (fun p => p.1.nodes), ⟨_, [.ref t], [(b, 0)], 0, 0, none, none, none, rfl, s0, upd_same, .one ⟨t, v, rfl, .inl (.inl (by rw [upd_ne htl, upd_same]; rfl)), hb.tm s0.tm⟩, Nat.zero_le _, ?_, ?_, Nat.le_refl _, rfl⟩, ?_⟩
  · intro p hp
    rw [List.mem_singleton.mp hp]
    exact ⟨hg, by show 0 + b.asks ≤ b.asks; omega⟩
  · simp [sumN]
  rintro m σ H' ⟨xs, S, mo, wi, o1, o2, o3, rfl, s1, hL, hS, hmo, hP, hw, hsz, rfl⟩
  refine ⟨_, rfl, l, _, rfl, .inl (.inl (.inl hL)), _, _, rfl, rfl, _, rfl, ?_⟩
  refine ite2 (fun c => ?_) (fun c => ?_)
  · have hx : 0 < xs.length := by have := of_decide_eq_true c; omega
    obtain ⟨y, S', p, hy, rfl, hS', ⟨t1, u1, rfl, ht1, hb1⟩⟩ := hS.snoc hx
    have hp := hP p (by simp)
    have e1 : sumN (S' ++ [p]) (fun q => q.1.nodes) = sumN S' (fun q => q.1.nodes) + (1 + sumN (kids p.1) Brk.nodes) := by
      rw [sumN_append, sumN_cons, ← nodes_kids]; rfl
    have e2 := sumN_ge S' (fun q => q.1.nodes) fun q _ => nodes_pos q.1
    have e3 := sumN_ge (kids p.1) Brk.nodes fun q _ => nodes_pos q
    rw [e1, List.length_append, List.length_singleton] at hw
    rw [List.length_append, List.length_singleton] at hsz
    have tm2 : Tm K H' (upd H' l (.lst xs.dropLast)) := Tm.lst hL
    have s2 : Same H (upd H' l (.lst xs.dropLast)) := s1.mut hl0
    refine ⟨_, fun _ _ n => n, ?_⟩
    refine ⟨_, rfl, .inl ⟨rfl, _, .inl (.inl hL)⟩, l, xs, _, rfl, rfl, hL, hy, t1, _, rfl, tm2 _ _ ht1, rfl, _, _, rfl, _, _, rfl, rfl, ?_⟩
    have hb2 := hb1.tm tm2
    obtain ⟨a1, r1, rfl, hw1⟩ := hb2.word
    have hak := ask_kids hp.2
    have hak0 := ask_self hp.2
    refine ⟨_, rfl, _, rfl, _, rfl, _, _, _, _, rfl, rfl, hw1, at0 _ _, rfl, .inr ⟨_, rfl, _, _, rfl, rfl, mo, (p.2 + askN p.1 : Nat), ?_, ?_⟩⟩
    · rw [askN_eq]
      show [V.int mo, V.int ((p.2 : Int) + (askN p.1 : Int))] = _
      rw [show ((p.2 : Int) + (askN p.1 : Int)) = ((p.2 + askN p.1 : Nat) : Int) by omega]
    obtain ⟨mo', hmo', hmo2⟩ : ∃ mo' : Nat, (if ((p.2 + askN p.1 : Nat) : Int) > (mo : Int) then ((p.2 + askN p.1 : Nat) : Int) else (mo : Int)) = (mo' : Int) ∧ mo' ≤ b.asks := by
      split
      · exact ⟨_, rfl, hak0⟩
      · exact ⟨_, rfl, hmo⟩
    rw [hmo']
    have hL2 : (upd H' l (.lst xs.dropLast)) l = some (.lst xs.dropLast) := upd_same
    refine ⟨_, rfl, .inl ⟨rfl, _, .inl (.inl hL2)⟩, ?_⟩
    refine ⟨_, rfl, p.1, .ref a1, rfl, hb2, good_okB hp.1, fun r us H3 s3 hr3 hk3 => ?_⟩
    have hkl := hk3.get.1
    have hL3 : H3 l = some (.lst xs.dropLast) := s3 _ _ upd_same
    refine ⟨r, rfl, ⟨_, hr3⟩, fun Dc hDc => lcN K (wn_tup hr3) hDc (by omega) (fun i y Hy => ∃ t, y = .ref t ∧ SqT K Hy t [us.getD i .non, .int ((p.2 + askN p.1 : Nat) : Int)]) ?_ ?_ ?_⟩
    · rintro i y Ha Hb tm ⟨t, rfl, q⟩
      exact ⟨t, rfl, tm _ _ q⟩
    · intro i H4 hi s4 W hW
      refine ⟨_, rfl, _, rfl, _, rfl, _, _, _, _, rfl, rfl, (s3.trans s4).tup hw1, at0 _ _, rfl, .inr ⟨_, rfl, _, _, rfl, rfl, (by show 2 ≤ sizeLine; decide), fun t ht => ?_⟩⟩
      refine hW _ _ (Same.new ht) ⟨t, rfl, .inl (.inl ?_)⟩
      rw [upd_same, askN_eq]
      show some (HO.tup [_, V.int ((p.2 : Int) + (askN p.1 : Int))]) = _
      rw [show ((p.2 : Int) + (askN p.1 : Int)) = ((p.2 + askN p.1 : Nat) : Int) by omega]
    · intro H4 ys s4 hDL hyl hR
      have hL4 : H4 l = some (.lst xs.dropLast) := s4 _ _ hL3
      have hlen := hS'.1
      refine ⟨l, Dc, _, _, rfl, rfl, hL4, hDL, ?_, ?_⟩
      · exact szl (by omega)
      have tm5 : Tm K H4 (upd H4 l (.lst (xs.dropLast ++ ys))) := Tm.lst hL4
      refine ⟨_, ?_, xs.dropLast ++ ys, S' ++ (kids p.1).map (fun k => (k, p.2 + askN p.1)), mo', wi + us.length, _, _, _, rfl, ((s2.trans s3).trans s4).mut hl0, upd_same, ?_, hmo2, ?_, ?_, ?_, rfl⟩
      · rw [e1, sumN_append, sumN_kids]; omega
      · refine StkAt.app ((((hS'.tm tm2).tm s3.tm).tm s4.tm).tm tm5) ?_
        refine StkAt.kids ((hk3.tm s4.tm).tm tm5) hyl fun i y e => ?_
        obtain ⟨t, e', q⟩ := hR i y e
        exact ⟨t, e', tm5 _ _ q⟩
      · intro q hq
        rcases List.mem_append.mp hq with hq | hq
        · exact hP q (by simp [hq])
        · obtain ⟨k, hk, rfl⟩ := List.mem_map.mp hq
          exact ⟨good_kids hp.1 k hk, hak k hk⟩
      · rw [sumN_append, sumN_kids, List.length_append, List.length_map, hkl]
        omega
      · rw [List.length_append, List.length_map, hkl]
        omega
  · refine ⟨_, rfl, ?_⟩
    exact hQ mo _ hmo s1
theorem ok_most_asks (B : Bi mg) (G : Gi K mg) (D : Dfn K mg "most_asks" s_most_asks)  (c_has_plain_word : C8.Cal P w K mg base 1 "has_plain_word" (sp_has_plain_word K) []) (c_check_breaker : C8.Cal P w K mg base 5 "check_breaker" (sp_check_breaker K) []) (c_most_plain_asks : C8.Cal P w K mg base 4 "most_plain_asks" (sp_most_plain_asks K) []) : C8.Cal P w K mg base 6 "most_asks" (sp_most_asks K) [] := by
  refine D.cal sc_most_asks (fun _ _ _ _ _ _ us hl => match us, hl with | [_], _ => rfl) (fun vs H Q E h => ?_) (fun f cdv A outer s H vs Q E hr h => ?_)
  · obtain ⟨b, v, rfl, _⟩ := h
    rfl
  obtain ⟨b, v, rfl, hb, hg, hd, hn, hQ⟩ := h
  refine ⟨_, (pss_cons (ps_expr (C8.pe_c c_check_breaker hr (by omega) rfl (pa_cons (pv 0) pa_nil)))
    (pss_cons (ps_set (i := 1) sc_most_asks.nd rfl (Or.inl rfl) pe_int)
    (pss_cons (ps_while PassesOwn.never (pt_not (pt_val (C8.pe_c c_has_plain_word hr (by omega) rfl (pa_cons (pv 0) pa_nil)))) (pss_cons ps_never (pss_cons ps_never (pss_cons ps_never (pss_one ps_never)))))
    (pss_one (ps_ret (pe_op op_add (pv 1) (C8.pe_c c_most_plain_asks hr (by omega) rfl (pa_cons (pv 0) pa_nil)))))))), ?_⟩
  refine ⟨_, rfl, b, v, rfl, hb, hg, hd, hn, fun H1 s1 => ?_⟩
  refine ⟨fun m σ H' => σ = [some v, some (.int 0)] ∧ H' = H1, ⟨0, rfl, rfl⟩, ?_⟩
  rintro m σ H' ⟨rfl, rfl⟩
  refine ⟨_, rfl, b, v, rfl, hb.tm s1.tm, _, rfl, iteF ?_⟩
  refine ⟨_, rfl, _, rfl, b, v, rfl, hb.tm s1.tm, hg, hd, hn, fun m H2 hm s2 => ⟨_, _, rfl, rfl, ?_⟩⟩
  have := hQ m _ hm (s1.trans s2)
  rw [show (m : Int) = (0 : Int) + (m : Int) by omega] at this
  exact this
end
end BB
set_option maxHeartbeats 4000000
namespace BB
open PySem PySem.Spec PyProof.Rows L2
/-! ### classes -/
structure Kl (K : PySem.W.Frag) (x : Str) (fs : List Str) : Prop where
  cl : Cls K (He.ga K x)
  no : ∀ f ∈ fs, NoAttr K (He.ga K x) f
theorem Kl.na {K : PySem.W.Frag} {x : Str} {fs : List Str} (k : Kl K x fs) (i : Nat) {f : Str} (h : fs[i]? = some f := by rfl) : NoAttr K (He.ga K x) f := k.no f (List.mem_of_getElem? h)
structure Zs (K : PySem.W.Frag) : Prop where
  tape : Kl K "Tape" ["choices", "draws"]
  keyed : Kl K "KeyedWorld" ["block", "key"]
  any : Kl K "AnyWorld" ["tape", "l", "m", "told"]
  stopped : Kl K "Stopped" ["world"]
  notes : Kl K "Notes" ["world", "asked"]
  play : Kl K "Play" ["outcome", "said", "draws", "asked"]
  table : Kl K "Table" ["game", "tape", "kind", "challenge", "world", "secret"]
  ways : Kl K "Ways" ["most", "many", "won"]
/-! ### all but some things stay -/
def But (S : List Addr) (H H' : Hp) : Prop := ∀ b o, b ∉ S → H b = some o → H' b = some o
theorem _root_.L2.Same.but {S : List Addr} {H H' : Hp} (s : Same H H') : But S H H' := fun b o _ h => s b o h
theorem But.trans {S : List Addr} {H H1 H2 : Hp} (a : But S H H1) (b : But S H1 H2) : But S H H2 := fun c o n h => b c o n (a c o n h)
theorem But.mono {S T : List Addr} {H H' : Hp} (a : But S H H') (h : ∀ b ∈ S, b ∈ T) : But T H H' := fun c o n q => a c o (fun m => n (h c m)) q
theorem But.upd {S : List Addr} {H : Hp} {p : Addr} {o : HO} (h : p ∈ S) : But S H (L2.upd H p o) := fun b u n q => by
  rw [upd_ne (fun e => n (by rw [e]; exact h))]; exact q
theorem But.same0 {S : List Addr} {H0 H H' : Hp} (s : Same H0 H) (a : But S H H') (h : ∀ b ∈ S, H0 b = none) : Same H0 H' := fun b o q => a b o (fun m => by rw [h b m] at q; cases q) (s b o q)
theorem But.tm {K : PySem.W.Frag} {S : List Addr} {H H' : Hp} (a : But S H H') (h : ∀ b ∈ S, NoT (H b)) : Tm K H H' := fun c xs q => by
  rcases q with (q | ⟨u, q⟩) | q
  · exact .inl (.inl (a c _ (fun m => by have := h c m; rw [q] at this; exact this) q))
  · exact .inl (.inr ⟨u, a c _ (fun m => by have := h c m; rw [q] at this; exact this) q⟩)
  · exact .inr q
/-! ### the tape -/
def PairsAt (K : PySem.W.Frag) (H : Hp) (ts : List V) (ds : Path) : Prop := ts.length = ds.length ∧ ∀ (i : Nat) (v : V) (p : Nat × Nat), ts[i]? = some v → ds[i]? = some p → ∃ t, v = .ref t ∧ SqT K H t [.int p.1, .int p.2]
theorem PairsAt.tm {K : PySem.W.Frag} {H H' : Hp} {ts : List V} {ds : Path} (t : Tm K H H') (h : PairsAt K H ts ds) : PairsAt K H' ts ds := ⟨h.1, fun i v p a b => by
  obtain ⟨u, e, q⟩ := h.2 i v p a b
  exact ⟨u, e, t _ _ q⟩⟩
theorem PairsAt.snoc {K : PySem.W.Frag} {H : Hp} {ts : List V} {ds : Path} {t : Addr} {p : Nat × Nat} (h : PairsAt K H ts ds) (q : SqT K H t [.int p.1, .int p.2]) : PairsAt K H (ts ++ [.ref t]) (ds ++ [p]) := by
  refine ⟨by simp [h.1], fun i v p' a b => ?_⟩
  by_cases hi : i < ts.length
  · rw [List.getElem?_append_left hi] at a
    rw [List.getElem?_append_left (by rw [← h.1]; exact hi)] at b
    exact h.2 i v p' a b
  · have e : i = ts.length := by
      have := (List.getElem?_eq_some_iff.mp a).1
      simp at this; omega
    subst e
    rw [List.getElem?_append_right (Nat.le_refl _)] at a
    rw [h.1, List.getElem?_append_right (Nat.le_refl _)] at b
    simp at a b
    subst a b
    exact ⟨t, rfl, q⟩
abbrev fTape (lc ld : Addr) : List (Str × V) := [("choices", .ref lc), ("draws", .ref ld)]
/-- the addresses of a tape -/
structure TA' where
  tp : Addr
  dx : Addr
  lc : Addr
  ld : Addr
structure TapeAt (K : PySem.W.Frag) (A : TA') (H : Hp) (cs : List Nat) (ds : Path) : Prop where
  ob : H A.tp = some (.ins (He.ga K "Tape") A.dx (fTape A.lc A.ld))
  ch : H A.lc = some (.lst (cs.map fun c : Nat => V.int c))
  dr : ∃ ts, H A.ld = some (.lst ts) ∧ PairsAt K H ts ds
  ne : A.lc ≠ A.ld
  sz : ds.length ≤ 1000
/-- another thing changes -/
theorem TapeAt.but {K : PySem.W.Frag} {A : TA'} {H H' : Hp} {cs : List Nat} {ds : Path} {S : List Addr} (h : TapeAt K A H cs ds) (b : But S H H') (t : Tm K H H') (n1 : A.tp ∉ S) (n2 : A.lc ∉ S) (n3 : A.ld ∉ S) : TapeAt K A H' cs ds :=
  ⟨b _ _ n1 h.ob, b _ _ n2 h.ch, let ⟨ts, h1, h2⟩ := h.dr; ⟨ts, b _ _ n3 h1, h2.tm t⟩, h.ne, h.sz⟩
theorem sc_Tape_init : FnScope ["self", "choices"] ["self", "choices"] (defScope s_Tape_init) := ⟨rfl, rfl, rfl, by decide +kernel, rfl, by decide +kernel, by decide +kernel⟩
theorem sc_Tape_draw : FnScope ["self", "many", "at", "choice"] ["self", "many"] (defScope s_Tape_draw) := ⟨rfl, rfl, rfl, by decide +kernel, rfl, by decide +kernel, by decide +kernel⟩
theorem sc_Tape_string : FnScope ["self", "length"] ["self", "length"] (defScope s_Tape_string) := ⟨rfl, rfl, rfl, by decide +kernel, rfl, by decide +kernel, by decide +kernel⟩
def sp_Tape_init (K : PySem.W.Frag) : Sp := fun vs H Q _ => ∃ (x dx l : Addr) (cs : List Nat), vs = [.ref x, .ref l] ∧ H x = some (.ins (He.ga K "Tape") dx []) ∧ SqL K H l (cs.map fun c : Nat => V.int c) ∧
  ∀ H' A, A.tp = x → H A.lc = none → H A.ld = none → But [x] H H' → TapeAt K A H' cs [] → Q .non H'
def sp_Tape_draw (K : PySem.W.Frag) : Sp := fun vs H Q _ => ∃ (A : TA') (cs : List Nat) (ds : Path) (m : Nat), vs = [.ref A.tp, .int m] ∧ TapeAt K A H cs ds ∧ cs.getD ds.length 0 < m ∧ ds.length < 1000 ∧
  ∀ H', But [A.ld] H H' → TapeAt K A H' cs (ds ++ [(cs.getD ds.length 0, m)]) → Q (.int (cs.getD ds.length 0 : Nat)) H'
def sp_Tape_string (K : PySem.W.Frag) : Sp := fun vs H Q _ => ∃ (A : TA') (cs : List Nat) (ds : Path) (m : Nat), vs = [.ref A.tp, .int m] ∧ m ≤ 40 ∧ TapeAt K A H cs ds ∧ cs.getD ds.length 0 < 2 ^ m ∧ ds.length < 1000 ∧
  ∀ H', But [A.ld] H H' → TapeAt K A H' cs (ds ++ [(cs.getD ds.length 0, 2 ^ m)]) → Q (vS (bitsOf m (cs.getD ds.length 0))) H'
section
variable {P : Program} {w : World} {K : PySem.W.Frag} {mg : Str → Option Value} {base : Heap}
theorem ok_Tape_init (B : Bi mg) (G : Gi K mg) (Z : Zs K) (D : Cdf K mg "Tape" (He.ga K "Tape") "Tape.__init__" s_Tape_init)  : C8.Mak P w K mg base 1 "Tape" (He.ga K "Tape") (sp_Tape_init K) [] := by
  refine D.mak sc_Tape_init (fun _ _ _ _ _ _ us hl => match us, hl with | [_, _], _ => rfl) (fun vs H Q E h => ?_) (fun f cdv A outer s H vs Q E hr h => ?_)
  · obtain ⟨x, dx, l, cs, rfl, _⟩ := h
    rfl
  obtain ⟨x, dx, l, cs, rfl, hx, hl, hQ⟩ := h
  refine ⟨_, (pss_cons (ps_fld (pv 0) (pe_callTy call_list_of (by rfl) B.list (by decide +kernel) (pa_cons (pv 1) pa_nil)) rfl)
    (pss_one (ps_fld (pv 0) (pe_lst pa_nil) rfl))), ?_⟩
  refine ⟨_, rfl, l, _, rfl, .inl hl, fun lc hlc => ?_⟩
  have nxc : x ≠ lc := ne_of_none hx hlc
  refine ⟨_, rfl, x, _, dx, _, rfl, by rw [upd_ne nxc]; exact hx, Z.tape.cl, Z.tape.na 0, (by show 0 < 1000; decide), ?_⟩
  refine ⟨Nat.zero_le _, fun ld hld => ?_⟩
  have nxd : x ≠ ld := fun e => by rw [e, upd_same] at hld; cases hld
  have ncd : lc ≠ ld := fun e => by rw [e, upd_ne (fun e2 => nxd e2.symm), upd_same] at hld; cases hld
  have hld0 : H ld = none := by rw [upd_ne nxd.symm, upd_ne ncd.symm] at hld; exact hld
  refine ⟨_, rfl, x, _, dx, _, rfl, by rw [upd_ne nxd, upd_same], Z.tape.cl, Z.tape.na 1, (by show 1 < 1000; decide), ?_⟩
  refine hQ _ ⟨x, dx, lc, ld⟩ rfl hlc hld0 ?_ ⟨?_, ?_, ⟨[], ?_, rfl, fun i v p e => by simp at e⟩, ncd, Nat.zero_le _⟩
  · intro b o nb q
    have nb : b ≠ x := by simpa using nb
    rw [upd_ne nb, upd_ne (ne_of_none q hld0), upd_ne nb, upd_ne (ne_of_none q hlc)]; exact q
  · show upd _ x _ x = _
    rw [upd_same]; rfl
  · show upd _ x _ lc = _
    rw [upd_ne nxc.symm, upd_ne ncd, upd_ne nxc.symm, upd_same]
  · show upd _ x _ ld = _
    rw [upd_ne nxd.symm, upd_same]
theorem ok_Tape_draw (B : Bi mg) (G : Gi K mg) (Z : Zs K) (D : Mdf K (He.ga K "Tape") "draw" "Tape.draw" s_Tape_draw)  : C8.Met P w K mg base 1 (He.ga K "Tape") "draw" (sp_Tape_draw K) [] := by
  refine D.met sc_Tape_draw (fun _ _ _ _ _ _ us hl => match us, hl with | [_, _], _ => rfl) (fun vs H Q E h => ?_) (fun f cdv A outer s H vs Q E hr h => ?_)
  · obtain ⟨A, cs, ds, m, rfl, _⟩ := h
    rfl
  obtain ⟨A, cs, ds, m, rfl, hT, hc, hsz, hQ⟩ := h
  obtain ⟨hob, hch, ⟨ts, hdr, hp⟩, hne, _⟩ := id hT
  refine ⟨_, (pss_cons (ps_set (i := 2) sc_Tape_draw.nd rfl (Or.inl rfl) (pe_callB call_len_seq (by rfl) B.len PySem.boot_len (pa_cons (pe_fld (pv 0) rfl) pa_nil)))
    (C8.pss_cut (ps_set (i := 3) sc_Tape_draw.nd rfl (Or.inl rfl) (pe_ifExp (pt_cmpR op_lt (pv 2) (pe_callB call_len_seq (by rfl) B.len PySem.boot_len (pa_cons (pe_fld (pv 0) rfl) pa_nil)) (nomark _)) (pe_ix ix_list (pe_fld (pv 0) rfl) (pv 2) (fun _ _ => rfl)) pe_int))
    (pss_cons (ps_if (pt_not (pt_chain op_le op_lt pe_int (pv 3) (pv 1))) (pss_one ps_never) pss_nil)
    (pss_cons (ps_expr (pe_bm PySem.F.plainAttrs_list PySem.F.slot_list_append PySem.F.type_list_append mt_append (pe_fld (pv 0) rfl) (pa_cons (pe_tup (pa_cons (pv 3) (pa_cons (pv 1) pa_nil))) pa_nil)))
    (pss_one (ps_ret (pv 3))))))), ?_⟩
  refine ⟨_, rfl, A.tp, _, _, _, _, rfl, hob, Z.tape.cl, Z.tape.na 1, rfl, A.ld, _, rfl, .inl (.inl (.inl hdr)), ?_⟩
  have htl := hp.1
  refine ⟨fun σ H' => σ = [some (.ref A.tp), some (.int m), some (.int ds.length), some (.int (cs.getD ds.length 0 : Nat))] ∧ H' = H, ?_, ?_⟩
  · refine ⟨_, rfl, _, rfl, A.tp, _, _, _, _, rfl, hob, Z.tape.cl, Z.tape.na 0, rfl, A.lc, _, rfl, .inl (.inl (.inl hch)), _, _, rfl, rfl, _, rfl, ?_⟩
    refine ite2 (fun c => ?_) (fun c => ?_)
    · have c := of_decide_eq_true c
      have hi : ds.length < cs.length := by rw [List.length_map] at c; omega
      refine ⟨_, rfl, A.tp, _, _, _, _, rfl, hob, Z.tape.cl, Z.tape.na 0, rfl, _, rfl, A.lc, _, _, .int (cs.getD ds.length 0 : Nat), rfl, rfl, .inl (.inl hch), ?_, ?_, rfl⟩
      · rw [htl]
        refine atI_nat ?_
        rw [List.getElem?_map, List.getD_eq_getElem?_getD, List.getElem?_eq_getElem hi]; rfl
      · rw [htl]; rfl
    · have c := of_decide_eq_false (Bool.eq_false_iff.mpr c)
      refine ⟨?_, rfl⟩
      rw [List.length_map] at c
      have : cs.getD ds.length 0 = 0 := by rw [List.getD_eq_getElem?_getD, List.getElem?_eq_none (by omega)]; rfl
      rw [this, htl]; rfl
  · rintro σ H' ⟨rfl, rfl⟩
    refine ⟨_, rfl, _, _, rfl, rfl, _, rfl, ?_⟩
    rw [decide_eq_true (by omega)]
    refine iteT ?_
    refine ⟨_, rfl, _, _, rfl, rfl, _, rfl, ?_⟩
    rw [decide_eq_true (by omega)]
    refine iteF ?_
    refine ⟨_, rfl, A.tp, _, _, _, _, rfl, hob, Z.tape.cl, Z.tape.na 1, rfl, .inl ⟨rfl, _, .inl (.inl hdr)⟩, _, rfl, _, rfl, (by show 2 ≤ sizeLine; decide), fun t ht => ?_⟩
    have ntl : A.ld ≠ t := ne_of_none hdr ht
    refine ⟨A.ld, ts, _, rfl, rfl, by rw [upd_ne ntl]; exact hdr, szlt (by omega), _, rfl, ?_⟩
    have tm1 : Tm K H' (upd H' t (.tup [.int (cs.getD ds.length 0 : Nat), .int m])) := Tm.new ht
    have tm2 : Tm K (upd H' t (.tup [.int (cs.getD ds.length 0 : Nat), .int m])) (upd (upd H' t (.tup [.int (cs.getD ds.length 0 : Nat), .int m])) A.ld (.lst (ts ++ [.ref t]))) := Tm.lst (by rw [upd_ne ntl]; exact hdr)
    have hb : But [A.ld] H' (upd (upd H' t (.tup [.int (cs.getD ds.length 0 : Nat), .int m])) A.ld (.lst (ts ++ [.ref t]))) := (Same.new ht).but.trans (But.upd (by simp))
    have ntp : A.tp ≠ A.ld := ne_of hob hdr (by intro z; cases z)
    refine hQ _ hb ⟨hb _ _ (by simpa using ntp) hob, hb _ _ (by simpa using hne) hch, ⟨_, upd_same, ?_⟩, hne, by simp; omega⟩
    exact ((hp.tm tm1).tm tm2).snoc (p := (cs.getD ds.length 0, m)) (tm2 _ _ (.inl (.inl upd_same)))
theorem ok_Tape_string (B : Bi mg) (G : Gi K mg) (Z : Zs K) (D : Mdf K (He.ga K "Tape") "string" "Tape.string" s_Tape_string)  (c_bits : C8.Cal P w K mg base 1 "bits" spBits []) (m_draw : C8.Met P w K mg base 1 (He.ga K "Tape") "draw" (sp_Tape_draw K) []) : C8.Met P w K mg base 2 (He.ga K "Tape") "string" (sp_Tape_string K) [] := by
  refine D.met sc_Tape_string (fun _ _ _ _ _ _ us hl => match us, hl with | [_, _], _ => rfl) (fun vs H Q E h => ?_) (fun f cdv A outer s H vs Q E hr h => ?_)
  · obtain ⟨A, cs, ds, m, rfl, _⟩ := h
    rfl
  obtain ⟨A, cs, ds, m, rfl, hm, hT, hc, hsz, hQ⟩ := h
  refine ⟨_, (pss_one (ps_ret (C8.pe_c c_bits hr (by omega) rfl (pa_cons (pv 1) (pa_cons (C8.pe_mt m_draw hr (by omega) (pv 0) (pa_cons (pe_op op_shl pe_int (pv 1)) pa_nil)) pa_nil))))), ?_⟩
  refine ⟨_, rfl, _, rfl, A.tp, _, _, rfl, hT.ob, rfl, _, rfl, _, _, rfl, rfl, ⟨by omega, by omega, by decide⟩, A, cs, ds, 2 ^ m, ?_, hT, hc, hsz, fun H' hb hT' => ?_⟩
  · show [V.ref A.tp, V.int ((1 : Int) * 2 ^ ((m : Int).toNat))] = _
    rw [shl1]
  · exact ⟨m, cs.getD ds.length 0, rfl, by omega, fun H2 s2 => hQ _ (hb.trans s2.but) (hT'.but (S := []) s2.but s2.tm (by simp) (by simp) (by simp))⟩
end
end BB
set_option maxHeartbeats 4000000
namespace BB
open PySem PySem.Spec PyProof.Rows L2
/-- the function of a table -/
def tabF (tb : List (List Bs)) (m : Nat) (k : Nat) (s : Bs) : Bs := (tb.getD k []).getD (numOf s) (List.replicate m false)
theorem tabF_len {tb : List (List Bs)} {n l m : Nat} (g : TabOk tb n l m) (k : Nat) (s : Bs) : (tabF tb m k s).length = m := by
  unfold tabF
  have key : ∀ r : List Bs, (∀ x ∈ r, x.length = m) → (r.getD (numOf s) (List.replicate m false)).length = m := fun r hr => by
    by_cases h2 : numOf s < r.length
    · rw [List.getD_eq_getElem?_getD, List.getElem?_eq_getElem h2]
      exact hr _ (List.getElem_mem h2)
    · rw [List.getD_eq_getElem?_getD, List.getElem?_eq_none (by omega)]; simp
  refine key _ fun x hx => ?_
  by_cases h1 : k < tb.length
  · rw [List.getD_eq_getElem?_getD, List.getElem?_eq_getElem h1] at hx
    exact (g.row tb[k] (List.getElem_mem h1)).2 x hx
  · rw [List.getD_eq_getElem?_getD, List.getElem?_eq_none (by omega)] at hx
    cases hx
/-- the worlds of the games -/
inductive WK where
  | keyed (blk : Addr) (n l m : Nat) (tb : List (List Bs)) (kb : Bs)
  | any (l m : Nat) (told : List (Bs × Bs))
  | silent
def wdOf : WK → Wd
  | .keyed _ _ l m tb kb => .det (ans (tabF tb m) l (numOf kb))
  | .any l m told => .any l m told
  | .silent => .det (fun _ => [])
theorem cAK : ¬ ("AnyWorld" : Str) = "KeyedWorld" := by decide +kernel
theorem cSK : ¬ ("Silent" : Str) = "KeyedWorld" := by decide +kernel
theorem cAS : ¬ ("AnyWorld" : Str) = "Silent" := by decide +kernel
def clsOf : WK → Str
  | .keyed _ _ _ _ _ _ => "KeyedWorld"
  | .any _ _ _ => "AnyWorld"
  | .silent => "Silent"
/-- the addresses of a run -/
structure RA where
  A : TA'
  na : Addr
  dn : Addr
  la : Addr
  wa : Addr
  dw : Addr
  da : Addr
abbrev toldV (told : List (Bs × Bs)) : List (Key × V) := told.map fun p => (Sum.inr (sOf p.1), vS p.2)
abbrev fAnyW (tp : Addr) (l m : Nat) (da : Addr) : List (Str × V) := [("tape", .ref tp), ("l", .int l), ("m", .int m), ("told", .ref da)]
abbrev fKeyed (blk : Addr) (kb : Bs) : List (Str × V) := [("block", .ref blk), ("key", vS kb)]
abbrev fNotes (wa la : Addr) : List (Str × V) := [("world", .ref wa), ("asked", .ref la)]
def WAt (K : PySem.W.Frag) (R : RA) (H : Hp) : WK → Prop
  | .keyed blk n l m tb kb => H R.wa = some (.ins (He.ga K "KeyedWorld") R.dw (fKeyed blk kb)) ∧ FunAt K H blk n l m tb ∧ TabOk tb n l m ∧ kb.length = n ∧ n ≤ 8 ∧ l ≤ 8 ∧ m ≤ 8
  | .any l m told => H R.wa = some (.ins (He.ga K "AnyWorld") R.dw (fAnyW R.A.tp l m R.da)) ∧ H R.da = some (.dK (toldV told)) ∧ m ≤ 8 ∧ l ≤ 8 ∧ (∀ p ∈ told, p.2.length = m)
  | .silent => H R.wa = some (.ins (He.ga K "Silent") R.dw [])
def tlen : WK → Nat
  | .any _ _ told => told.length
  | _ => 0
/-- what an ask is answered, with these choices ahead -/
def ansW : Wd → Bs → List Nat → Option (Bs × Path × Wd)
  | .det f, s, _ => some (f s, [], .det f)
  | .any l m told, s, ch =>
    if s.length = l then
      match told.lookup s with
      | some a => some (a, [], .any l m told)
      | none => if ch.headD 0 < 2 ^ m then some (bitsOf m (ch.headD 0), [(ch.headD 0, 2 ^ m)], .any l m (told ++ [(s, bitsOf m (ch.headD 0))])) else none
    else some ([], [], .any l m told)
structure RunAt (K : PySem.W.Frag) (R : RA) (H : Hp) (cs : List Nat) (ds : Path) (wk : WK) (q : Nat) : Prop where
  tape : TapeAt K R.A H cs ds
  notes : H R.na = some (.ins (He.ga K "Notes") R.dn (fNotes R.wa R.la))
  asked : ∃ ts, H R.la = some (.lst ts) ∧ ts.length ≤ q
  world : WAt K R H wk
  ne1 : R.la ≠ R.A.ld
  ne2 : R.la ≠ R.A.lc
  ne3 : R.da ≠ R.la ∧ R.da ≠ R.na ∧ R.da ≠ R.A.tp ∧ R.da ≠ R.A.lc ∧ R.da ≠ R.wa
  dd : R.da = R.A.ld ∨ clsOf wk = "AnyWorld"
abbrev RA.S (R : RA) : List Addr := [R.A.ld, R.da]
theorem drop_head {cs : List Nat} {n : Nat} : (cs.drop n).headD 0 = cs.getD n 0 := by
  rw [List.headD_eq_head?_getD, List.head?_drop, List.getD_eq_getElem?_getD]
theorem valV_told {s : Bs} : ∀ told : List (Bs × Bs), valV (toldV told) (Sum.inr (sOf s) : Key) = (told.lookup s).map vS
  | [] => rfl
  | (x, y) :: r => by
    have ih := valV_told (s := s) r
    rw [List.lookup_cons]
    by_cases e : s = x
    · subst e
      simp [valV, toldV]
    · have e1 : (s == x) = false := by simpa using e
      rw [e1]
      have e2 : ¬ (Sum.inr (sOf x) : Key) = Sum.inr (sOf s) := fun z => e (sOf_inj (Sum.inr.inj z)).symm
      rw [← ih]
      simp [valV, toldV, e2]
theorem sc_KeyedWorld_answer : FnScope ["self", "string"] ["self", "string"] (defScope s_KeyedWorld_answer) := ⟨rfl, rfl, rfl, by decide +kernel, rfl, by decide +kernel, by decide +kernel⟩
theorem sc_AnyWorld_answer : FnScope ["self", "string"] ["self", "string"] (defScope s_AnyWorld_answer) := ⟨rfl, rfl, rfl, by decide +kernel, rfl, by decide +kernel, by decide +kernel⟩
theorem sc_Silent_answer : FnScope ["self", "string"] ["self", "string"] (defScope s_Silent_answer) := ⟨rfl, rfl, rfl, by decide +kernel, rfl, by decide +kernel, by decide +kernel⟩
def sp_ans (K : PySem.W.Frag) (cls : Str) : Sp := fun vs H Q _ => ∃ (R : RA) (cs : List Nat) (ds : Path) (wk : WK) (s a : Bs) (p : Path) (wd' : Wd), vs = [.ref R.wa, vS s] ∧ TapeAt K R.A H cs ds ∧ WAt K R H wk ∧ clsOf wk = cls ∧ s.length ≤ 1000 ∧ ds.length < 900 ∧ tlen wk < 900 ∧
  ansW (wdOf wk) s (cs.drop ds.length) = some (a, p, wd') ∧ ∀ H' wk', clsOf wk' = cls → wdOf wk' = wd' → tlen wk' ≤ tlen wk + 1 → But R.S H H' → TapeAt K R.A H' cs (ds ++ p) → WAt K R H' wk' → Q (vS a) H'
theorem WAt.cls {K : PySem.W.Frag} {R : RA} {H : Hp} {wk : WK} (h : WAt K R H wk) : ∃ fs, H R.wa = some (.ins (He.ga K (clsOf wk)) R.dw fs) ∧ fs.lookup ("answer" : Str) = none := by
  cases wk with
  | keyed blk n l m tb kb => exact ⟨_, h.1, rfl⟩
  | any l m told => exact ⟨_, h.1, rfl⟩
  | silent => exact ⟨_, h, rfl⟩
section
variable {P : Program} {w : World} {K : PySem.W.Frag} {mg : Str → Option Value} {base : Heap}
theorem ok_KeyedWorld_answer (B : Bi mg) (G : Gi K mg) (Z : Zs K) (D : Mdf K (He.ga K "KeyedWorld") "answer" "KeyedWorld.answer" s_KeyedWorld_answer)  (c_value_at : C8.Cal P w K mg base 2 "value_at" (sp_value_at K) []) : C8.Met P w K mg base 3 (He.ga K "KeyedWorld") "answer" (sp_ans K "KeyedWorld") [] := by
  refine D.met sc_KeyedWorld_answer (fun _ _ _ _ _ _ us hl => match us, hl with | [_, _], _ => rfl) (fun vs H Q E h => ?_) (fun f cdv A outer s H vs Q E hr h => ?_)
  · obtain ⟨R, cs, ds, wk, s, a, p, wd', rfl, _⟩ := h
    rfl
  obtain ⟨R, cs, ds, wk, s, a, p, wd', rfl, hT, hW, hc, hs, hd, htl, ha, hQ⟩ := h
  refine ⟨_, (pss_cons (ps_if (pt_cmpR op_ne (pe_callB call_len_str (by rfl) B.len PySem.boot_len (pa_cons (pv 1) pa_nil)) (pe_ix ix_tup (pe_fld (pv 0) rfl) pe_int (fun _ _ => rfl)) (nomark _)) (pss_one (ps_ret pe_str)) pss_nil)
    (pss_one (ps_ret (C8.pe_c c_value_at hr (by omega) rfl (pa_cons (pe_fld (pv 0) rfl) (pa_cons (pe_fld (pv 0) rfl) (pa_cons (pv 1) pa_nil))))))), ?_⟩
  cases wk with
  | keyed blk n l m tb kb =>
    obtain ⟨hob, ⟨q, qs, h1, h2, h3, h4⟩, g, hk, hn, hl, hm⟩ := id hW
    refine ⟨_, rfl, sOf s, rfl, by rw [sOf_len]; exact szl, ?_⟩
    refine ⟨_, rfl, R.wa, _, _, _, _, rfl, hob, Z.keyed.cl, Z.keyed.na 0, rfl, _, _, _, _, rfl, rfl, h1, at2 _ _ _ _, rfl, _, rfl, ?_⟩
    rw [sOf_len]
    have ha' : (ans (tabF tb m) l (numOf kb) s, ([] : Path), Wd.det (ans (tabF tb m) l (numOf kb))) = (a, p, wd') := Option.some.inj ha
    cases ha'
    by_cases e : s.length = l
    · rw [decide_eq_true (by rw [e])]
      refine iteF ?_
      have hkb : numOf kb < tb.length := by rw [g.len, ← hk]; exact numOf_lt kb
      have hrow := g.row tb[numOf kb] (List.getElem_mem hkb)
      have hx : numOf s < (tb[numOf kb]).length := by rw [hrow.1, ← e]; exact numOf_lt s
      refine ⟨_, rfl, R.wa, _, _, _, _, rfl, hob, Z.keyed.cl, Z.keyed.na 0, rfl, _, rfl, R.wa, _, _, _, _, rfl, hob, Z.keyed.cl, Z.keyed.na 1, rfl, _, rfl, blk, n, l, m, tb, kb, s, tb[numOf kb], (tb[numOf kb])[numOf s], rfl, ⟨q, qs, h1, h2, h3, h4⟩, List.getElem?_eq_getElem hkb, List.getElem?_eq_getElem hx, by omega, hs, ?_⟩
      have := hQ H (.keyed blk n l m tb kb) rfl rfl (Nat.le_succ _) (Same.refl H).but (by rw [List.append_nil]; exact hT) hW
      rw [ans, if_pos e] at this
      unfold tabF at this
      rw [List.getD_eq_getElem?_getD, List.getD_eq_getElem?_getD, List.getElem?_eq_getElem hkb] at this
      have e3 : (some tb[numOf kb]).getD [] = tb[numOf kb] := rfl
      rw [e3, List.getElem?_eq_getElem hx] at this
      exact this
    · rw [decide_eq_false (fun z => e (by have := V.int.inj z; omega))]
      refine iteT ?_
      have := hQ H (.keyed blk n l m tb kb) rfl rfl (Nat.le_succ _) (Same.refl H).but (by rw [List.append_nil]; exact hT) hW
      rw [ans, if_neg e] at this
      rw [show V.str "" = vS [] from congrArg V.str sE]
      exact this
  | any l m told => exact absurd hc cAK
  | silent => exact absurd hc cSK
theorem ok_Silent_answer (B : Bi mg) (G : Gi K mg) (Z : Zs K) (D : Mdf K (He.ga K "Silent") "answer" "Silent.answer" s_Silent_answer)  : C8.Met P w K mg base 3 (He.ga K "Silent") "answer" (sp_ans K "Silent") [] := by
  refine D.met sc_Silent_answer (fun _ _ _ _ _ _ us hl => match us, hl with | [_, _], _ => rfl) (fun vs H Q E h => ?_) (fun f cdv A outer s H vs Q E hr h => ?_)
  · obtain ⟨R, cs, ds, wk, s, a, p, wd', rfl, _⟩ := h
    rfl
  obtain ⟨R, cs, ds, wk, s, a, p, wd', rfl, hT, hW, hc, hs, hd, htl, ha, hQ⟩ := h
  refine ⟨_, (pss_one (ps_ret pe_str)), ?_⟩
  cases wk with
  | keyed blk n l m tb kb => exact absurd hc.symm cSK
  | any l m told => exact absurd hc cAS
  | silent =>
    have ha' : (([] : Bs), ([] : Path), Wd.det (fun _ => [])) = (a, p, wd') := Option.some.inj ha
    cases ha'
    have := hQ H .silent rfl rfl (Nat.le_succ _) (Same.refl H).but (by rw [List.append_nil]; exact hT) hW
    rw [show vS [] = V.str "" from (congrArg V.str sE).symm] at this
    exact this
theorem ok_AnyWorld_answer (B : Bi mg) (G : Gi K mg) (Z : Zs K) (D : Mdf K (He.ga K "AnyWorld") "answer" "AnyWorld.answer" s_AnyWorld_answer)  (m_string : C8.Met P w K mg base 2 (He.ga K "Tape") "string" (sp_Tape_string K) []) : C8.Met P w K mg base 3 (He.ga K "AnyWorld") "answer" (sp_ans K "AnyWorld") [] := by
  refine D.met sc_AnyWorld_answer (fun _ _ _ _ _ _ us hl => match us, hl with | [_, _], _ => rfl) (fun vs H Q E h => ?_) (fun f cdv A outer s H vs Q E hr h => ?_)
  · obtain ⟨R, cs, ds, wk, s, a, p, wd', rfl, _⟩ := h
    rfl
  obtain ⟨R, cs, ds, wk, s, a, p, wd', rfl, hT, hW, hc, hs, hd, htl, ha, hQ⟩ := h
  refine ⟨_, (pss_cons (ps_if (pt_cmpR op_ne (pe_callB call_len_str (by rfl) B.len PySem.boot_len (pa_cons (pv 1) pa_nil)) (pe_fld (pv 0) rfl) (nomark _)) (pss_one (ps_ret pe_str)) pss_nil)
    (C8.pss_cut (ps_if (pt_cmp (pc_dnotin (hu_of hr) (pv 1) (pe_fld (pv 0) rfl))) (pss_one (ps_dput (hu_of hr) (pe_fld (pv 0) rfl) (pv 1) (C8.pe_mt m_string hr (by omega) (pe_fld (pv 0) rfl) (pa_cons (pe_fld (pv 0) rfl) pa_nil)) rfl)) pss_nil)
    (pss_one (ps_ret (pe_dget (hu_of hr) (pe_fld (pv 0) rfl) (pv 1) (fun _ _ => rfl)))))), ?_⟩
  cases wk with
  | keyed blk n l m tb kb => exact absurd hc.symm cAK
  | silent => exact absurd hc.symm cAS
  | any l m told =>
    obtain ⟨hob, hD, hm, hl, hp⟩ := id hW
    have htl : told.length < 900 := htl
    refine ⟨_, rfl, sOf s, rfl, by rw [sOf_len]; exact szl, _, rfl, R.wa, _, _, _, _, rfl, hob, Z.any.cl, Z.any.na 1, rfl, rfl, _, rfl, ?_⟩
    rw [sOf_len]
    by_cases e : s.length = l
    · rw [decide_eq_true (by rw [e])]
      refine iteF ?_
      have ha2 : ansW (.any l m told) s (cs.drop ds.length) = some (a, p, wd') := ha
      rw [ansW, if_pos e, drop_head] at ha2
      refine ⟨fun σ H' => ∃ told', σ = [some (.ref R.wa), some (vS s)] ∧ But R.S H H' ∧ TapeAt K R.A H' cs (ds ++ p) ∧ WAt K R H' (.any l m told') ∧ wd' = .any l m told' ∧ told'.lookup s = some a ∧ told'.length ≤ told.length + 1, ?_, ?_⟩
      · refine ⟨_, rfl, _, rfl, R.wa, _, _, _, _, rfl, hob, Z.any.cl, Z.any.na 3, rfl, R.da, _, rfl, DGet.k (k := Sum.inr (sOf s)) hD, _, rfl, ?_⟩
        rw [valV_told]
        cases q : told.lookup s with
        | some a' =>
          rw [q] at ha2
          cases (Option.some.inj ha2)
          refine iteF ?_
          exact ⟨told, rfl, (Same.refl H).but, by rw [List.append_nil]; exact hT, hW, rfl, q, Nat.le_succ _⟩
        | none =>
          rw [q] at ha2
          refine iteT ?_
          dsimp only at ha2
          split at ha2
          · rename_i hlt
            cases (Option.some.inj ha2)
            refine ⟨_, rfl, R.wa, _, _, _, _, rfl, hob, Z.any.cl, Z.any.na 0, rfl, R.A.tp, _, _, rfl, hT.ob, rfl, _, rfl, R.wa, _, _, _, _, rfl, hob, Z.any.cl, Z.any.na 2, rfl, R.A, cs, ds, m, rfl, by omega, hT, hlt, by omega, fun H1 hb hT1 => ?_⟩
            have nwl : R.wa ≠ R.A.ld := by
              obtain ⟨ts, hts, _⟩ := hT.dr
              exact ne_of hob hts (by intro z; cases z)
            have ndl : R.da ≠ R.A.ld := by
              obtain ⟨ts, hts, _⟩ := hT.dr
              exact ne_of hD hts (by intro z; cases z)
            have hob1 := hb _ _ (by simpa using nwl) hob
            have hD1 := hb _ _ (by simpa using ndl) hD
            have nwd : R.wa ≠ R.da := ne_of hob hD (by intro z; cases z)
            refine ⟨_, rfl, R.wa, _, _, _, _, rfl, hob1, Z.any.cl, Z.any.na 3, rfl, _, rfl, R.da, _, rfl, DPut.k (k := Sum.inr (sOf s)) hD1 (by rw [List.length_map]; exact szlt (by omega)), ?_⟩
            rw [putK_new _ (by rw [valV_told, q]; rfl)]
            have tm2 : Tm K H1 (upd H1 R.da (.dK (toldV told ++ [(Sum.inr (sOf s), vS (bitsOf m (cs.getD ds.length 0)))]))) := Tm.upd (by rw [hD1]; trivial)
            have hb2 : But [R.da] H1 (upd H1 R.da (.dK (toldV told ++ [(Sum.inr (sOf s), vS (bitsOf m (cs.getD ds.length 0)))]))) := But.upd (by simp)
            refine ⟨told ++ [(s, bitsOf m (cs.getD ds.length 0))], rfl, (hb.mono (by simp)).trans (hb2.mono (by simp)), hT1.but hb2 tm2 ?_ ?_ ?_, ⟨?_, ?_, hm, hl, ?_⟩, rfl, ?_, ?_⟩
            · have := ne_of hT1.ob hD1 (by intro z; cases z); simpa using this
            · have := ne_of hT1.ch hD1 (by intro z; cases z); simpa using this
            · simpa using ndl.symm
            · rw [upd_ne nwd]; exact hob1
            · rw [upd_same]; simp [toldV]
            · intro x hx
              rcases List.mem_append.mp hx with hx | hx
              · exact hp x hx
              · rw [List.mem_singleton.mp hx]; exact bitsOf_length _ _
            · rw [lookup_snoc q, if_pos rfl]
            · simp
          · cases ha2
      · rintro σ H' ⟨told', rfl, hb, hT', hW', ew, hlk, htl'⟩
        obtain ⟨hob', hD', _⟩ := id hW'
        refine ⟨_, rfl, R.wa, _, _, _, _, rfl, hob', Z.any.cl, Z.any.na 3, rfl, _, rfl, R.da, _, rfl, (by have := DGet.k (k := Sum.inr (sOf s)) hD'; rw [valV_told, hlk] at this; exact this), ?_⟩
        exact hQ H' (.any l m told') rfl ew.symm htl' hb hT' hW'
    · rw [decide_eq_false (fun z => e (by have := V.int.inj z; omega))]
      refine iteT ?_
      have ha2 : ansW (.any l m told) s (cs.drop ds.length) = some (a, p, wd') := ha
      rw [ansW, if_neg e] at ha2
      cases (Option.some.inj ha2)
      have := hQ H (.any l m told) rfl rfl (Nat.le_succ _) (Same.refl H).but (by rw [List.append_nil]; exact hT) hW
      rw [show vS [] = V.str "" from (congrArg V.str sE).symm] at this
      exact this
end
end BB
set_option maxHeartbeats 4000000
namespace BB
open PySem PySem.Spec PyProof.Rows L2
/-! ### plays, a step at a time -/
theorem follow_toss {bs : List Brk} {w : Wd} {h : Bs} {ch : List Nat} {p : Path} {said : Bs} (e : follow (tr (.toss bs) w h) ch = some (p, said)) :
    ∃ b p', bs[ch.headD 0]? = some b ∧ follow (tr b w h) ch.tail = some (p', said) ∧ p = (ch.headD 0, bs.length) :: p' := by
  rw [tr, follow_node, trL_map, List.getElem?_map, List.length_map] at e
  cases q : bs[ch.headD 0]? with
  | none => rw [q] at e; cases e
  | some b =>
    rw [q] at e
    have e : (follow (tr b w h) ch.tail).map (fun r => ((ch.headD 0, bs.length) :: r.1, r.2)) = some (p, said) := e
    cases q2 : follow (tr b w h) ch.tail with
    | none => rw [q2] at e; cases e
    | some r =>
      rw [q2] at e
      have e := Option.some.inj e
      obtain ⟨p', s'⟩ := r
      cases e
      exact ⟨b, p', rfl, q2, rfl⟩
theorem follow_look {i : Nat} {f s : Brk} {w : Wd} {h : Bs} {ch : List Nat} : follow (tr (.look i f s) w h) ch = follow (tr (if h.getD i false then s else f) w h) ch := by
  rw [tr]; split <;> rfl
theorem follow_ask {ps : List Part} {n : Brk} {w : Wd} {h : Bs} {ch : List Nat} {p : Path} {said : Bs} (e : follow (tr (.ask ps n) w h) ch = some (p, said)) :
    ∃ a p1 w' p2, ansW w (made ps h) ch = some (a, p1, w') ∧ follow (tr n w' (h ++ a)) (ch.drop p1.length) = some (p2, said) ∧ p = p1 ++ p2 ∧ p1.length ≤ 1 := by
  cases w with
  | det f => rw [tr] at e; exact ⟨_, [], _, p, rfl, e, rfl, Nat.zero_le _⟩
  | any l m told =>
    rw [tr] at e
    by_cases hl : (made ps h).length = l
    · rw [if_pos hl] at e
      rw [ansW, if_pos hl]
      cases q : told.lookup (made ps h) with
      | some a =>
        rw [q] at e
        exact ⟨a, [], _, p, rfl, e, rfl, Nat.zero_le _⟩
      | none =>
        rw [q] at e
        dsimp only at e ⊢
        rw [follow_node, List.getElem?_map, List.length_map, allBs_length] at e
        by_cases hc : ch.headD 0 < 2 ^ m
        · rw [allBs_get hc] at e
          have e : (follow (tr n (.any l m (told ++ [(made ps h, bitsOf m (ch.headD 0))])) (h ++ bitsOf m (ch.headD 0))) ch.tail).map (fun r => ((ch.headD 0, 2 ^ m) :: r.1, r.2)) = some (p, said) := e
          cases q2 : follow (tr n (.any l m (told ++ [(made ps h, bitsOf m (ch.headD 0))])) (h ++ bitsOf m (ch.headD 0))) ch.tail with
          | none => rw [q2] at e; cases e
          | some r =>
            rw [q2] at e
            obtain ⟨p', s'⟩ := r
            cases (Option.some.inj e)
            rw [if_pos hc]
            refine ⟨_, _, _, p', rfl, ?_, rfl, Nat.le_refl _⟩
            rw [show ch.drop [(ch.headD 0, 2 ^ m)].length = ch.tail by cases ch <;> rfl]
            exact q2
        · have : (allBs m)[ch.headD 0]? = none := List.getElem?_eq_none (by rw [allBs_length]; omega)
          rw [this] at e
          cases e
    · rw [if_neg hl] at e
      rw [ansW, if_neg hl]
      exact ⟨[], [], _, p, rfl, by rw [List.append_nil]; exact e, rfl, Nat.zero_le _⟩
theorem ans_le {K : PySem.W.Frag} {R : RA} {H : Hp} {wk : WK} (h : WAt K R H wk) {s a : Bs} {ch : List Nat} {p : Path} {w' : Wd} (e : ansW (wdOf wk) s ch = some (a, p, w')) : a.length ≤ 8 := by
  cases wk with
  | keyed blk n l m tb kb =>
    obtain ⟨_, _, g, _, _, _, hm⟩ := h
    have e : some (ans (tabF tb m) l (numOf kb) s, ([] : Path), Wd.det (ans (tabF tb m) l (numOf kb))) = some (a, p, w') := e
    cases (Option.some.inj e)
    unfold ans
    split
    · rw [tabF_len g]; exact hm
    · exact Nat.zero_le _
  | any l m told =>
    obtain ⟨_, _, hm, _, hp⟩ := h
    have e : ansW (.any l m told) s ch = some (a, p, w') := e
    rw [ansW] at e
    split at e
    · cases q : told.lookup s with
      | some b =>
        rw [q] at e
        cases (Option.some.inj e)
        have : a.length = m := hp _ (lookup_mem q)
        omega
      | none =>
        rw [q] at e
        dsimp only at e
        split at e
        · cases (Option.some.inj e)
          rw [bitsOf_length]; exact hm
        · cases e
    · cases (Option.some.inj e)
      exact Nat.zero_le _
  | silent =>
    have e : some (([] : Bs), ([] : Path), Wd.det (fun _ => [])) = some (a, p, w') := e
    cases (Option.some.inj e)
    exact Nat.zero_le _
theorem WAt.but {K : PySem.W.Frag} {R : RA} {H H' : Hp} {wk : WK} {S : List Addr} (h : WAt K R H wk) (b : But S H H') (t : Tm K H H') (n1 : R.wa ∉ S) (n2 : ∀ kvs, H R.da = some (.dK kvs) → R.da ∉ S) : WAt K R H' wk := by
  cases wk with
  | keyed blk n l m tb kb => exact ⟨b _ _ n1 h.1, h.2.1.tm t, h.2.2⟩
  | any l m told => exact ⟨b _ _ n1 h.1, b _ _ (n2 _ h.2.1) h.2.1, h.2.2⟩
  | silent => exact b _ _ n1 h
theorem RunAt.wne {K : PySem.W.Frag} {R : RA} {H : Hp} {cs : List Nat} {ds : Path} {wk : WK} {q : Nat} (h : RunAt K R H cs ds wk q) {x : Addr} {xs : List V} (hx : H x = some (.lst xs)) : R.wa ≠ x := by
  obtain ⟨fs, e, _⟩ := h.world.cls
  exact ne_of e hx (by intro z; cases z)
theorem sc_Notes_answer : FnScope ["self", "string", "found"] ["self", "string"] (defScope s_Notes_answer) := ⟨rfl, rfl, rfl, by decide +kernel, rfl, by decide +kernel, by decide +kernel⟩
theorem sc_Stopped_init : FnScope ["self", "world"] ["self", "world"] (defScope s_Stopped_init) := ⟨rfl, rfl, rfl, by decide +kernel, rfl, by decide +kernel, by decide +kernel⟩
theorem sc_Stopped_now : FnScope ["self"] ["self"] (defScope s_Stopped_now) := ⟨rfl, rfl, rfl, by decide +kernel, rfl, by decide +kernel, by decide +kernel⟩
theorem sc_made_string : FnScope ["parts", "handed", "found", "part"] ["parts", "handed"] (defScope s_made_string) := ⟨rfl, rfl, rfl, by decide +kernel, rfl, by decide +kernel, by decide +kernel⟩
theorem sc_run_plain : FnScope ["breaker", "tape", "challenge", "world", "handed", "stopped"] ["breaker", "tape", "challenge", "world"] (defScope s_run_plain) := ⟨rfl, rfl, rfl, by decide +kernel, rfl, by decide +kernel, by decide +kernel⟩
theorem sc_run_breaker : FnScope ["breaker", "tape", "challenge", "world"] ["breaker", "tape", "challenge", "world"] (defScope s_run_breaker) := ⟨rfl, rfl, rfl, by decide +kernel, rfl, by decide +kernel, by decide +kernel⟩
def sp_Notes_answer (K : PySem.W.Frag) : Sp := fun vs H Q _ => ∃ (R : RA) (cs : List Nat) (ds : Path) (wk : WK) (q : Nat) (s a : Bs) (p : Path) (wd' : Wd), vs = [.ref R.na, vS s] ∧ RunAt K R H cs ds wk q ∧ s.length ≤ 1000 ∧ ds.length < 900 ∧ tlen wk < 900 ∧ q < 900 ∧
  ansW (wdOf wk) s (cs.drop ds.length) = some (a, p, wd') ∧ ∀ H' wk', wdOf wk' = wd' → tlen wk' ≤ tlen wk + 1 → But (R.la :: R.S) H H' → RunAt K R H' cs (ds ++ p) wk' (q + 1) → Q (vS a) H'
def sp_Stopped_init (K : PySem.W.Frag) : Sp := fun vs H Q _ => ∃ (x dx na : Addr), vs = [.ref x, .ref na] ∧ H x = some (.ins (He.ga K "Stopped") dx []) ∧ Q .non (upd H x (.ins (He.ga K "Stopped") dx [("world", .ref na)]))
def sp_Stopped_now (K : PySem.W.Frag) : Sp := fun vs H Q _ => ∃ (x dx na dn : Addr) (fs : List (Str × V)), vs = [.ref x] ∧ H x = some (.ins (He.ga K "Stopped") dx [("world", .ref na)]) ∧ H na = some (.ins (He.ga K "Notes") dn fs) ∧ Q (.bl false) H
/-- what isinstance asks of Notes -/
structure IsN (K : PySem.W.Frag) : Prop where
  ha : PySem.W.findIn K (.ref (He.ga K "Notes")) "__class__" = some (some (.builtin "object.__class__"))
  hn : PySem.W.specialIn K (.builtin "object.__class__") "__get__" = some (some (.builtin "getset_descriptor.__get__"))
  htk : PySem.W.takesIn K (.builtin "object.__class__") = some true
  hm : PySem.W.mroIn K (He.ga K "Notes") (.type "object") = some true
  no : PySem.W.kitOne K (.ref (He.ga K "Notes")) (.ref (He.ga K "OnetimeWorld")) = some false
def sp_made_string (K : PySem.W.Frag) : Sp := fun vs H Q _ => ∃ (a : Addr) (ps : List Part) (h : Bs), vs = [.ref a, vS h] ∧ SqT K H a (ps.map partV) ∧ ps.length ≤ 1000 ∧ h.length ≤ 1000 ∧ Q (vS (made ps h)) H
section
variable {P : Program} {w : World} {K : PySem.W.Frag} {mg : Str → Option Value} {base : Heap}
theorem ok_Notes_answer (B : Bi mg) (G : Gi K mg) (Z : Zs K) (D : Mdf K (He.ga K "Notes") "answer" "Notes.answer" s_Notes_answer)  (m_ans : ∀ wk : WK, C8.Met P w K mg base 3 (He.ga K (clsOf wk)) "answer" (sp_ans K (clsOf wk)) []) : C8.Met P w K mg base 4 (He.ga K "Notes") "answer" (sp_Notes_answer K) [] := by
  refine D.met sc_Notes_answer (fun _ _ _ _ _ _ us hl => match us, hl with | [_, _], _ => rfl) (fun vs H Q E h => ?_) (fun f cdv A outer s H vs Q E hr h => ?_)
  · obtain ⟨R, cs, ds, wk, q, s, a, p, wd', rfl, _⟩ := h
    rfl
  obtain ⟨R, cs, ds, wk, q, s, a, p, wd', rfl, hR, hs, hd, htl, hq, ha, hQ⟩ := h
  obtain ⟨fs, hob, hlk⟩ := hR.world.cls
  refine ⟨_, (pss_cons (ps_set (i := 2) sc_Notes_answer.nd rfl (Or.inl rfl) (C8.pe_mt (m_ans wk) hr (by omega) (pe_fld (pv 0) rfl) (pa_cons (pv 1) pa_nil)))
    (pss_cons (ps_expr (pe_bm PySem.F.plainAttrs_list PySem.F.slot_list_append PySem.F.type_list_append mt_append (pe_fld (pv 0) rfl) (pa_cons (pe_tup (pa_cons (pv 1) (pa_cons (pv 2) pa_nil))) pa_nil)))
    (pss_one (ps_ret (pv 2))))), ?_⟩
  refine ⟨_, rfl, R.na, _, _, _, _, rfl, hR.notes, Z.notes.cl, Z.notes.na 0, rfl, R.wa, _, fs, rfl, hob, hlk, _, rfl, ?_⟩
  refine ⟨R, cs, ds, wk, s, a, p, wd', rfl, hR.tape, hR.world, rfl, hs, hd, htl, ha, fun H1 wk' hc hw' htl' hb hT hW => ?_⟩
  obtain ⟨ts, hL, hts⟩ := hR.asked
  have nld : R.la ∉ R.S := by
    intro z
    rcases List.mem_cons.mp z with z | z
    · exact hR.ne1 z
    · exact hR.ne3.1 (List.mem_singleton.mp z).symm
  obtain ⟨td, hdr, _⟩ := hR.tape.dr
  have nna : R.na ∉ R.S := by
    intro z
    rcases List.mem_cons.mp z with z | z
    · exact ne_of hR.notes hdr (by intro z; cases z) z
    · exact hR.ne3.2.1 (List.mem_singleton.mp z).symm
  have hL1 := hb _ _ nld hL
  have hn1 := hb _ _ nna hR.notes
  refine ⟨_, rfl, R.na, _, _, _, _, rfl, hn1, Z.notes.cl, Z.notes.na 1, rfl, .inl ⟨rfl, _, .inl (.inl hL1)⟩, _, rfl, _, rfl, (by show 2 ≤ sizeLine; decide), fun t ht => ?_⟩
  have ntl : R.la ≠ t := ne_of_none hL1 ht
  refine ⟨R.la, ts, _, rfl, rfl, by rw [upd_ne ntl]; exact hL1, szlt (by omega), _, rfl, ?_⟩
  have s1 : Same H1 (upd H1 t (.tup [vS s, vS a])) := Same.new ht
  have hL2 : (upd H1 t (.tup [vS s, vS a])) R.la = some (.lst ts) := s1 _ _ hL1
  have tm2 : Tm K (upd H1 t (.tup [vS s, vS a])) (upd (upd H1 t (.tup [vS s, vS a])) R.la (.lst (ts ++ [.ref t]))) := Tm.lst hL2
  have b2 : But [R.la] H1 (upd (upd H1 t (.tup [vS s, vS a])) R.la (.lst (ts ++ [.ref t]))) := s1.but.trans (But.upd (by simp))
  have tm3 := (s1.tm (K := K)).trans tm2
  obtain ⟨td1, hdr1, _⟩ := hT.dr
  have ntp : R.A.tp ≠ R.la := ne_of hT.ob hL1 (by intro z; cases z)
  have nnl : R.na ≠ R.la := ne_of hn1 hL1 (by intro z; cases z)
  have nwl : R.wa ≠ R.la := by
    obtain ⟨fs, e, _⟩ := hW.cls
    exact ne_of e hL1 (by intro z; cases z)
  refine hQ _ wk' hw' htl' ((hb.mono (fun _ z => List.mem_cons_of_mem _ z)).trans (b2.mono (by simp))) ⟨?_, ?_, ⟨_, upd_same, by simp; omega⟩, ?_, hR.ne1, hR.ne2, hR.ne3, hR.dd.imp id (fun z => hc.trans z)⟩
  · exact hT.but b2 tm3 (by simpa using ntp) (by simpa using hR.ne2.symm) (by simpa using hR.ne1.symm)
  · exact b2 _ _ (by simpa using nnl) hn1
  · exact hW.but b2 tm3 (by simpa using nwl) (fun _ _ => by simpa using hR.ne3.1)
theorem ok_Stopped_init (B : Bi mg) (G : Gi K mg) (Z : Zs K) (D : Cdf K mg "Stopped" (He.ga K "Stopped") "Stopped.__init__" s_Stopped_init)  : C8.Mak P w K mg base 1 "Stopped" (He.ga K "Stopped") (sp_Stopped_init K) [] := by
  refine D.mak sc_Stopped_init (fun _ _ _ _ _ _ us hl => match us, hl with | [_, _], _ => rfl) (fun vs H Q E h => ?_) (fun f cdv A outer s H vs Q E hr h => ?_)
  · obtain ⟨x, dx, na, rfl, _⟩ := h
    rfl
  obtain ⟨x, dx, na, rfl, hx, hQ⟩ := h
  refine ⟨_, (pss_one (ps_fld (pv 0) (pv 1) rfl)), ?_⟩
  exact ⟨_, rfl, _, rfl, x, _, dx, _, rfl, hx, Z.stopped.cl, Z.stopped.na 0, (by show 0 < 1000; decide), hQ⟩
theorem ok_Stopped_now (B : Bi mg) (G : Gi K mg) (Z : Zs K) (D : Mdf K (He.ga K "Stopped") "now" "Stopped.now" s_Stopped_now)  (hN : IsN K) : C8.Met P w K mg base 1 (He.ga K "Stopped") "now" (sp_Stopped_now K) [] := by
  refine D.met sc_Stopped_now (fun _ _ _ _ _ _ us hl => match us, hl with | [_], _ => rfl) (fun vs H Q E h => ?_) (fun f cdv A outer s H vs Q E hr h => ?_)
  · obtain ⟨x, dx, na, dn, fs, rfl, _⟩ := h
    rfl
  obtain ⟨x, dx, na, dn, fs, rfl, hx, hna, hQ⟩ := h
  refine ⟨_, (pss_one (ps_ret (pe_and (pe_callB call_isi (by rfl) B.isinstance (by decide +kernel) (pa_cons (pe_fld (pv 0) rfl) (pa_cons (C8.pe_gc rfl G.g_OnetimeWorld) pa_nil))) (pe_one (pe_fld (pe_fld (pv 0) rfl) rfl))))), ?_⟩
  exact ⟨_, rfl, x, _, _, _, _, rfl, hx, Z.stopped.cl, Z.stopped.na 0, rfl, _, _, _, _, _, rfl, .own _, .base (.ins hna Z.notes.cl hN.ha hN.hn hN.htk hN.hm), hN.no, _, rfl, iteF hQ⟩
theorem ok_made_string (B : Bi mg) (G : Gi K mg) (D : Dfn K mg "made_string" s_made_string)  : C8.Cal P w K mg base 1 "made_string" (sp_made_string K) [] := by
  refine D.cal sc_made_string (fun _ _ _ _ _ _ us hl => match us, hl with | [_, _], _ => rfl) (fun vs H Q E h => ?_) (fun f cdv A outer s H vs Q E hr h => ?_)
  · obtain ⟨a, ps, h, rfl, _⟩ := h
    rfl
  obtain ⟨a, ps, hd, rfl, hS, hps, hh, hQ⟩ := h
  refine ⟨_, (pss_cons (ps_set (i := 2) sc_made_string.nd rfl (Or.inl rfl) pe_str)
    (pss_cons (ps_for PassesOwn.never rfl (pi_tup (pv 0)) (pg_name (i := 3) sc_made_string.nd rfl (Or.inl rfl)) (pss_one (ps_if (pt_val (pe_callB call_isi (by rfl) B.isinstance (by decide +kernel) (pa_cons (pv 3) (pa_cons (pe_bltn (v := .ty "str") (by rfl) B.str (by decide +kernel) rfl) pa_nil)))) (pss_one (ps_set (i := 2) sc_made_string.nd rfl (Or.inl rfl) (pe_op op_add_str (pv 2) (pv 3)))) (pss_one (ps_set (i := 2) sc_made_string.nd rfl (Or.inl rfl) (pe_op op_add_str (pv 2) (pe_ifExp (pt_cmpR op_lt (pv 3) (pe_callB call_len_str (by rfl) B.len PySem.boot_len (pa_cons (pv 1) pa_nil)) (nomark _)) (pe_ix ix_str (pv 1) (pv 3) (fun _ _ => rfl)) pe_str)))))))
    (pss_one (ps_ret (pv 2))))), ?_⟩
  refine ⟨_, rfl, a, rfl, ⟨_, hS⟩, forW (wn_tup hS) (fun i σ H' => ∃ u : Option V, σ = [some (.ref a), some (vS hd), some (vS (made (ps.take i) hd)), u] ∧ H' = H) ⟨none, by rw [show vS (made (List.take 0 ps) hd) = V.str "" from (congrArg V.str sE).symm]; rfl, rfl⟩ (fun i σ H' ⟨_, _, e⟩ => by rw [e]; exact Same.refl _) ?_ ?_⟩
  · rintro i σ H' hi ⟨u, rfl, rfl⟩
    have hi : i < ps.length := by simpa using hi
    rw [map_getD hi]
    have ml : (made (ps.take i) hd).length ≤ 1000 := by unfold made; rw [List.length_map, List.length_take]; omega
    have mk : ∀ b : Bool, (ps[i]).get hd = b → made (ps.take i) hd ++ [b] = made (ps.take (i + 1)) hd := fun b e => by
      rw [List.take_succ_eq_append_getElem hi]
      unfold made
      rw [List.map_append, List.map_cons, List.map_nil, e]
    cases e : ps[i] with
    | lit b =>
      refine ⟨_, rfl, _, _, _, _, _, rfl, .ty _, .base (.str _), k_str_str, _, rfl, iteT ?_⟩
      refine ⟨_, rfl, _, rfl, _, _, rfl, rfl, by rw [sOf_len, sOf_len]; exact szl (by simp; omega), ?_⟩
      rw [sOf_app, mk b (by rw [e]; rfl)]
      exact ⟨some (vS [b]), rfl, rfl⟩
    | bit j =>
      refine ⟨_, rfl, _, _, _, _, _, rfl, .ty _, .base (.int _), k_int_str, _, rfl, iteF ?_⟩
      refine ⟨_, rfl, _, rfl, _, rfl, _, rfl, by rw [sOf_len]; exact szl, _, _, rfl, rfl, _, rfl, ?_⟩
      rw [sOf_len]
      refine ite2 (fun c => ?_) (fun c => ?_)
      · have c := of_decide_eq_true c
        have hj : j < hd.length := by omega
        refine ⟨_, rfl, _, rfl, sOf hd, _, c01 hd[j], rfl, rfl, by rw [sOf_len]; exact szl, atI_nat ?_, _, _, rfl, rfl, ?_, ?_⟩
        · show ((hd.map c01).toArray.toList)[j]? = _
          rw [List.toList_toArray, List.getElem?_map, List.getElem?_eq_getElem hj]; rfl
        · rw [sOf_one, sOf_len, sOf_len]; exact szl (by simp; omega)
        · rw [sOf_one, sOf_app, mk hd[j] (by rw [e]; show hd.getD j false = _; rw [List.getD_eq_getElem?_getD, List.getElem?_eq_getElem hj]; rfl)]
          exact ⟨some (.int j), rfl, rfl⟩
      · have c := of_decide_eq_false (Bool.eq_false_iff.mpr c)
        rw [show V.str "0" = vS [false] from congrArg V.str s0]
        refine ⟨_, _, rfl, rfl, ?_, ?_⟩
        · rw [sOf_len, sOf_len]; exact szl (by simp; omega)
        · rw [sOf_app, mk false (by rw [e]; show hd.getD j false = _; rw [List.getD_eq_getElem?_getD, List.getElem?_eq_none (by omega)]; rfl)]
          exact ⟨some (.int j), rfl, rfl⟩
  · rintro σ H' ⟨u, rfl, rfl⟩
    refine ⟨_, rfl, ?_⟩
    rw [List.length_map, List.take_length]
    exact hQ
end
/-- a step's room: what may still come -/
structure Fits (b : Brk) (h : Bs) (ds : Path) (wk : WK) (q : Nat) : Prop where
  good : b.good 9
  h : h.length + 8 * b.depth ≤ 600
  ds : ds.length + b.depth ≤ 200
  q : q + b.depth ≤ 200
  tl : tlen wk + b.depth ≤ 200
def sp_run_plain (K : PySem.W.Frag) : Sp := fun vs H Q _ => ∃ (R : RA) (cs : List Nat) (ds : Path) (wk : WK) (q : Nat) (b : Brk) (v : V) (h : Bs) (p : Path) (said : Bs), vs = [v, .ref R.A.tp, vS h, .ref R.na] ∧ RunAt K R H cs ds wk q ∧ BrkAt K H b v ∧ Fits b h ds wk q ∧
  follow (tr b (wdOf wk) h) (cs.drop ds.length) = some (p, said) ∧ ∀ H' wk' q', But (R.la :: R.S) H H' → RunAt K R H' cs (ds ++ p) wk' q' → Q (vS said) H'
theorem RunAt.tm {K : PySem.W.Frag} {R : RA} {H H' : Hp} {cs : List Nat} {ds : Path} {wk : WK} {q : Nat} (h : RunAt K R H cs ds wk q) (b : But (R.la :: R.S) H H') : Tm K H H' := b.tm fun x hx => by
  obtain ⟨ts, hL, _⟩ := h.asked
  obtain ⟨td, hdr, _⟩ := h.tape.dr
  rcases List.mem_cons.mp hx with rfl | hx
  · rw [hL]; trivial
  · rcases List.mem_cons.mp hx with rfl | hx
    · rw [hdr]; trivial
    · rw [List.mem_singleton.mp hx]
      rcases h.dd with e | e
      · rw [e, hdr]; trivial
      · cases wk with
        | any l m told => rw [h.world.2.1]; trivial
        | keyed blk n l m tb kb => exact absurd e.symm cAK
        | silent => exact absurd e.symm cAS
/-- behind a draw of the breaker's own -/
theorem RunAt.drew {K : PySem.W.Frag} {R : RA} {H H' : Hp} {cs : List Nat} {ds ds' : Path} {wk : WK} {q : Nat} (h : RunAt K R H cs ds wk q) (b : But [R.A.ld] H H') (t : TapeAt K R.A H' cs ds') : RunAt K R H' cs ds' wk q := by
  obtain ⟨ts, hL, hq⟩ := h.asked
  obtain ⟨td, hdr, _⟩ := h.tape.dr
  have tm : Tm K H H' := h.tm (b.mono (by simp))
  refine ⟨t, b _ _ (by simpa using ne_of h.notes hdr (by intro z; cases z)) h.notes, ⟨ts, b _ _ (by simpa using h.ne1) hL, hq⟩, h.world.but b tm (by simpa using h.wne hdr) (fun kvs e => by simpa using ne_of e hdr (by intro z; cases z)), h.ne1, h.ne2, h.ne3, h.dd⟩
theorem depth_toss {bs : List Brk} {b : Brk} (h : b ∈ bs) : b.depth + 1 ≤ (Brk.toss bs).depth := depth_kids (.toss bs) b h
theorem Fits.kid {b k : Brk} {h h' : Bs} {ds ds' : Path} {wk wk' : WK} {q q' : Nat} (f : Fits b h ds wk q) (g : k.good 9) (d : k.depth + 1 ≤ b.depth) (e1 : h'.length ≤ h.length + 8) (e2 : ds'.length ≤ ds.length + 1) (e3 : q' ≤ q + 1) (e4 : tlen wk' ≤ tlen wk + 1) : Fits k h' ds' wk' q' :=
  ⟨g, by have := f.h; omega, by have := f.ds; omega, by have := f.q; omega, by have := f.tl; omega⟩
section
variable {P : Program} {w : World} {K : PySem.W.Frag} {mg : Str → Option Value} {base : Heap}
theorem ok_run_plain (B : Bi mg) (G : Gi K mg) (D : Dfn K mg "run_plain" s_run_plain)  (Z : Zs K) (c_made_string : C8.Cal P w K mg base 1 "made_string" (sp_made_string K) []) (k_Stopped : C8.Mak P w K mg base 1 "Stopped" (He.ga K "Stopped") (sp_Stopped_init K) []) (m_draw : C8.Met P w K mg base 1 (He.ga K "Tape") "draw" (sp_Tape_draw K) []) (m_notes_answer : C8.Met P w K mg base 4 (He.ga K "Notes") "answer" (sp_Notes_answer K) []) (m_now : C8.Met P w K mg base 1 (He.ga K "Stopped") "now" (sp_Stopped_now K) []) : C8.Cal P w K mg base 5 "run_plain" (sp_run_plain K) [] := by
  refine D.cal sc_run_plain (fun _ _ _ _ _ _ us hl => match us, hl with | [_, _, _, _], _ => rfl) (fun vs H Q E h => ?_) (fun f cdv A outer s H vs Q E hr h => ?_)
  · obtain ⟨R, cs, ds, wk, q, b, v, h, p, said, rfl, _⟩ := h
    rfl
  obtain ⟨R, cs, ds, wk, q, b, v, h, p, said, rfl, hR, hb, hf, hfo, hQ⟩ := h
  refine ⟨_, (pss_cons (ps_set (i := 4) sc_run_plain.nd rfl (Or.inl rfl) (pv 2))
    (pss_cons (ps_set (i := 5) sc_run_plain.nd rfl (Or.inl rfl) (C8.pe_mk k_Stopped hr (by decide) rfl (pa_cons (pv 3) pa_nil)))
    (pss_cons (ps_while PassesOwn.never (pt_cmpR op_ne (pe_ix ix_tup (pv 0) pe_int (fun _ _ => rfl)) pe_str (nomark _)) (pss_one (ps_if (pt_cmpR op_eq (pe_ix ix_tup (pv 0) pe_int (fun _ _ => rfl)) pe_str (nomark _)) (pss_one (ps_set (i := 0) sc_run_plain.nd rfl (Or.inl rfl) (pe_ix ix_tup (pe_ix ix_tup (pv 0) pe_int (fun _ _ => rfl)) (C8.pe_mt m_draw hr (by omega) (pv 1) (pa_cons (pe_callB call_len_seq (by rfl) B.len PySem.boot_len (pa_cons (pe_ix ix_tup (pv 0) pe_int (fun _ _ => rfl)) pa_nil)) pa_nil)) (fun _ _ => rfl)))) (pss_one (ps_if (pt_cmpR op_eq (pe_ix ix_tup (pv 0) pe_int (fun _ _ => rfl)) pe_str (nomark _)) (pss_one (ps_set (i := 0) sc_run_plain.nd rfl (Or.inl rfl) (pe_ifExp (pt_cmpR op_eq (C8.pe_c c_made_string hr (by omega) rfl (pa_cons (pe_tup (pa_cons (pe_ix ix_tup (pv 0) pe_int (fun _ _ => rfl)) pa_nil)) (pa_cons (pv 4) pa_nil))) pe_str (nomark _)) (pe_ix ix_tup (pv 0) pe_int (fun _ _ => rfl)) (pe_ix ix_tup (pv 0) pe_int (fun _ _ => rfl))))) (pss_cons (ps_set (i := 4) sc_run_plain.nd rfl (Or.inl rfl) (pe_op op_add_str (pv 4) (C8.pe_mt m_notes_answer hr (by omega) (pv 3) (pa_cons (C8.pe_c c_made_string hr (by omega) rfl (pa_cons (pe_ix ix_tup (pv 0) pe_int (fun _ _ => rfl)) (pa_cons (pv 4) pa_nil))) pa_nil))))
          (pss_cons (ps_if (pt_val (C8.pe_mt0 m_now hr (by omega) (pv 5))) (pss_one (ps_ret pe_str)) pss_nil)
          (pss_one (ps_set (i := 0) sc_run_plain.nd rfl (Or.inl rfl) (pe_ix ix_tup (pv 0) pe_int (fun _ _ => rfl)))))))))))
    (pss_one (ps_ret (C8.pe_c c_made_string hr (by omega) rfl (pa_cons (pe_ix ix_tup (pv 0) pe_int (fun _ _ => rfl)) (pa_cons (pv 4) pa_nil)))))))), ?_⟩
  refine ⟨_, rfl, _, rfl, fun x dx nx ndx nex => ⟨x, dx, R.na, rfl, upd_same, rfl, ?_⟩⟩
  have s1 : Same H (upd (upd (upd H dx (.own x)) x (.ins (He.ga K "Stopped") dx [])) x (.ins (He.ga K "Stopped") dx [("world", .ref R.na)])) := fun b o e => by
    rw [upd_ne (ne_of_none e nx), upd_ne (ne_of_none e nx), upd_ne (ne_of_none e ndx)]; exact e
  refine ⟨fun m σ H' => ∃ (ds' : Path) (wk' : WK) (q' : Nat) (b' : Brk) (v' : V) (h' : Bs) (p' : Path), σ = [some v', some (.ref R.A.tp), some (vS h), some (.ref R.na), some (vS h'), some (.ref x)] ∧ But (R.la :: R.S) H H' ∧ RunAt K R H' cs ds' wk' q' ∧ BrkAt K H' b' v' ∧ Fits b' h' ds' wk' q' ∧
      H' x = some (.ins (He.ga K "Stopped") dx [("world", .ref R.na)]) ∧ follow (tr b' (wdOf wk') h') (cs.drop ds'.length) = some (p', said) ∧ ds' ++ p' = ds ++ p ∧ m = b'.depth,
    ⟨_, ds, wk, q, b, v, h, p, rfl, s1.but, ?_, hb.tm s1.tm, hf, upd_same, hfo, rfl, rfl⟩, ?_⟩
  · obtain ⟨a1, a2, ⟨ts, a3, a3'⟩, a4, a5, a6, a7, a8⟩ := hR
    exact ⟨a1.but (S := []) s1.but s1.tm (by simp) (by simp) (by simp), s1 _ _ a2, ⟨ts, s1 _ _ a3, a3'⟩, a4.but (S := []) s1.but s1.tm (by simp) (by simp), a5, a6, a7, a8⟩
  rintro m σ H' ⟨ds', wk', q', b', v', h', p', rfl, hbt, hR', hb', hf', hx', hfo', hds, rfl⟩
  obtain ⟨a, r, rfl, hS⟩ := hb'.word
  have hxS : x ∉ R.la :: R.S := by
    obtain ⟨ts, hL, _⟩ := hR'.asked
    obtain ⟨td, hdr, _⟩ := hR'.tape.dr
    intro z
    rcases List.mem_cons.mp z with z | z
    · exact ne_of hx' hL (by intro z; cases z) z
    · rcases List.mem_cons.mp z with z | z
      · exact ne_of hx' hdr (by intro z; cases z) z
      · have z := List.mem_singleton.mp z
        rcases hR'.dd with e | e
        · exact ne_of hx' hdr (by intro z; cases z) (z.trans e)
        · cases wk' with
          | any l m told => exact ne_of hx' hR'.world.2.1 (by intro z; cases z) z
          | keyed blk n l m tb kb => exact absurd e.symm cAK
          | silent => exact absurd e.symm cAS
  refine ⟨_, rfl, _, _, _, _, rfl, rfl, hS, at0 _ _, rfl, _, rfl, ?_⟩
  cases b' with
  | say ps =>
    rw [show word (Brk.say ps) = ("say" : Str) from rfl, w_say_say]
    refine iteF ?_
    obtain ⟨a', pa, e, h1, h2⟩ := hb'
    cases e
    have hg := hf'.good
    rw [Brk.good] at hg
    rw [tr, follow] at hfo'
    cases (Option.some.inj hfo')
    refine ⟨_, rfl, _, _, _, _, rfl, rfl, h1, at1 _ _ _, _, rfl, pa, ps, h', rfl, h2, by omega, by have := hf'.h; omega, ?_⟩
    rw [List.append_nil] at hds
    subst hds
    exact hQ H' wk' q' hbt hR'
  | toss bs =>
    rw [show word (Brk.toss bs) = ("toss" : Str) from rfl, w_toss_say]
    refine iteT ?_
    obtain ⟨a', pa, us, e, h1, h2, h3⟩ := hb'
    cases e
    obtain ⟨b2, p2, hb2, hf2, rfl⟩ := follow_toss hfo'
    obtain ⟨hkl, hkg⟩ := h3.get
    rw [drop_head] at hb2
    have hlt : cs.getD ds'.length 0 < us.length := by rw [← hkl]; exact (List.getElem?_eq_some_iff.mp hb2).1
    refine ⟨_, fun _ _ n => n, ?_⟩
    refine ⟨_, rfl, _, _, _, _, rfl, rfl, h1, at0 _ _, rfl, _, rfl, ?_⟩
    dsimp only
    rw [w_toss_toss]
    refine iteT ?_
    have hds2 := hf'.ds
    refine ⟨_, rfl, _, _, _, _, rfl, rfl, h1, at1 _ _ _, _, rfl, R.A.tp, _, _, rfl, hR'.tape.ob, rfl, _, rfl, _, _, _, _, rfl, rfl, h1, at1 _ _ _, pa, _, rfl, .inr h2, R.A, cs, ds', us.length, rfl, hR'.tape, hlt, by omega, fun H1 hb1 hT1 => ?_⟩
    have hb1' : But (R.la :: R.S) H' H1 := hb1.mono (by simp)
    have tm1 := hR'.tm hb1'
    have hm : b2 ∈ bs := List.mem_of_getElem? hb2
    refine ⟨pa, us, _, us[cs.getD ds'.length 0], rfl, rfl, tm1 _ _ h2, atI_nat (List.getElem?_eq_getElem hlt), ?_⟩
    refine ⟨_, ?_, ds' ++ [(cs.getD ds'.length 0, us.length)], wk', q', b2, _, h', p2, rfl, hbt.trans hb1', hR'.drew hb1 hT1, (hkg _ _ _ hb2 (List.getElem?_eq_getElem hlt)).tm tm1, hf'.kid (good_kids (b := .toss bs) hf'.good b2 hm) (depth_toss hm) (by omega) (by simp) (by omega) (by omega), hb1' _ _ hxS hx', ?_, ?_, rfl⟩
    · have := depth_toss hm; omega
    · rw [List.length_append, List.length_singleton, ← List.tail_drop]
      exact hf2
    · rw [List.append_assoc, ← hds, drop_head, hkl]; rfl
  | look i f2 s2 =>
    rw [show word (Brk.look i f2 s2) = ("look" : Str) from rfl, w_look_say]
    refine iteT ?_
    obtain ⟨a', u, v, e, h1, h2, h3⟩ := hb'
    cases e
    rw [follow_look] at hfo'
    refine ⟨_, fun _ _ n => n, ?_⟩
    refine ⟨_, rfl, _, _, _, _, rfl, rfl, h1, at0 _ _, rfl, _, rfl, ?_⟩
    dsimp only
    rw [w_look_toss]
    refine iteF ?_
    refine ⟨_, rfl, _, _, _, _, rfl, rfl, h1, at0 _ _, rfl, _, rfl, ?_⟩
    dsimp only
    rw [w_look_look]
    refine iteT ?_
    have hh := hf'.h
    refine ⟨_, rfl, _, _, _, _, rfl, rfl, h1, at1 _ _ _, (by show 1 ≤ sizeLine; decide), fun t ht => ?_⟩
    have st : Same H' (upd H' t (.tup [.int i])) := Same.new ht
    have hR2 : RunAt K R (upd H' t (.tup [.int i])) cs ds' wk' q' := by
      obtain ⟨a1, a2, ⟨ts, a3, a3'⟩, a4, a5, a6, a7, a8⟩ := hR'
      exact ⟨a1.but (S := []) st.but st.tm (by simp) (by simp) (by simp), st _ _ a2, ⟨ts, st _ _ a3, a3'⟩, a4.but (S := []) st.but st.tm (by simp) (by simp), a5, a6, a7, a8⟩
    refine ⟨_, rfl, t, [.bit i], h', rfl, .inl (.inl upd_same), (by show 1 ≤ 1000; decide), by omega, rfl, _, rfl, ?_⟩
    have hmd : made [Part.bit i] h' = [h'.getD i false] := rfl
    rw [hmd, show V.str "0" = vS [false] from congrArg V.str s0, dec_vS]
    have hg := good_kids hf'.good
    have hd := depth_kids (.look i f2 s2)
    cases hbit : h'.getD i false with
    | false =>
      rw [hbit] at hfo'
      refine iteT ?_
      refine ⟨_, rfl, _, _, _, _, rfl, rfl, st.tup h1, at2 _ _ _ _, ?_⟩
      have hm : f2 ∈ kids (.look i f2 s2) := by simp [kids]
      have := hd f2 hm
      exact ⟨_, by omega, ds', wk', q', f2, _, h', p', rfl, hbt.trans st.but, hR2, h2.tm st.tm, hf'.kid (hg f2 hm) this (by omega) (by omega) (by omega) (by omega), st _ _ hx', hfo', hds, rfl⟩
    | true =>
      rw [hbit] at hfo'
      refine iteF ?_
      refine ⟨_, rfl, _, _, _, _, rfl, rfl, st.tup h1, at3 _ _ _ _ _, ?_⟩
      have hm : s2 ∈ kids (.look i f2 s2) := by simp [kids]
      have := hd s2 hm
      exact ⟨_, by omega, ds', wk', q', s2, _, h', p', rfl, hbt.trans st.but, hR2, h3.tm st.tm, hf'.kid (hg s2 hm) this (by omega) (by omega) (by omega) (by omega), st _ _ hx', hfo', hds, rfl⟩
  | ask ps n =>
    rw [show word (Brk.ask ps n) = ("ask" : Str) from rfl, w_ask_say]
    refine iteT ?_
    obtain ⟨a', pa, u, e, h1, h2, h3⟩ := hb'
    cases e
    obtain ⟨an, p1, w', p2, ha, hf2, rfl, hp1⟩ := follow_ask hfo'
    refine ⟨_, fun _ _ n => n, ?_⟩
    refine ⟨_, rfl, _, _, _, _, rfl, rfl, h1, at0 _ _, rfl, _, rfl, ?_⟩
    dsimp only
    rw [w_ask_toss]
    refine iteF ?_
    refine ⟨_, rfl, _, _, _, _, rfl, rfl, h1, at0 _ _, rfl, _, rfl, ?_⟩
    dsimp only
    rw [w_ask_look]
    refine iteF ?_
    have hh := hf'.h
    have hd1 := hf'.ds
    have hd2 := hf'.q
    have hd3 := hf'.tl
    have hg := hf'.good
    rw [Brk.good] at hg
    have hml : (made ps h').length = ps.length := List.length_map _
    have hal := ans_le hR'.world ha
    refine ⟨_, rfl, _, rfl, R.na, _, _, rfl, hR'.notes, rfl, _, rfl, _, _, _, _, rfl, rfl, h1, at1 _ _ _, _, rfl, pa, ps, h', rfl, h2, by omega, by omega, R, cs, ds', wk', q', made ps h', an, p1, w', rfl, hR', by omega, by omega, by omega, by omega, ha, fun H1 wk2 hw htl hb1 hR1 => ?_⟩
    have tm1 := hR'.tm hb1
    refine ⟨_, _, rfl, rfl, by rw [sOf_len, sOf_len]; exact szl (by omega), ?_⟩
    rw [sOf_app]
    refine ⟨_, rfl, x, dx, _, rfl, hb1 _ _ hxS hx', rfl, x, dx, R.na, R.dn, _, rfl, hb1 _ _ hxS hx', hR1.notes, _, rfl, iteF ?_⟩
    refine ⟨_, rfl, _, _, _, _, rfl, rfl, tm1 _ _ h1, at2 _ _ _ _, ?_⟩
    have hm : n ∈ kids (.ask ps n) := by simp [kids]
    have hdn := depth_kids (.ask ps n) n hm
    refine ⟨_, by omega, ds' ++ p1, wk2, q' + 1, n, u, h' ++ an, p2, rfl, hbt.trans hb1, hR1, h3.tm tm1, hf'.kid hg.2 hdn (by simp; omega) (by simp; omega) (by omega) htl, hb1 _ _ hxS hx', ?_, by rw [List.append_assoc]; exact hds, rfl⟩
    rw [hw, List.length_append, ← List.drop_drop]
    exact hf2
theorem ok_run_breaker (B : Bi mg) (G : Gi K mg) (D : Dfn K mg "run_breaker" s_run_breaker)  (kR : ∃ es n, KDict K w (He.ga K "RUNS") es n) (nR : ∀ b : Brk, PySem.W.nsIn K (He.ga K "RUNS") (word b) = some none) (c_run_plain : C8.Cal P w K mg base 5 "run_plain" (sp_run_plain K) []) : C8.Cal P w K mg base 6 "run_breaker" (sp_run_plain K) [] := by
  refine D.cal sc_run_breaker (fun _ _ _ _ _ _ us hl => match us, hl with | [_, _, _, _], _ => rfl) (fun vs H Q E h => ?_) (fun f cdv A outer s H vs Q E hr h => ?_)
  · obtain ⟨R, cs, ds, wk, q, b, v, h, p, said, rfl, _⟩ := h
    rfl
  obtain ⟨es, n, kRUNS⟩ := kR
  have hh := h
  obtain ⟨R, cs, ds, wk, q, b, v, h, p, said, rfl, hR, hb, hf, hfo, hQ⟩ := h
  refine ⟨_, (pss_cons (ps_if (pt_cmpR (op_in_kd kRUNS) (pe_ix ix_tup (pv 0) pe_int (fun _ _ => rfl)) (C8.pe_gc rfl G.g_RUNS) (by rfl)) (pss_one ps_never) pss_nil)
    (pss_one (ps_ret (C8.pe_c c_run_plain hr (by omega) rfl (pa_cons (pv 0) (pa_cons (pv 1) (pa_cons (pv 2) (pa_cons (pv 3) pa_nil)))))))), ?_⟩
  obtain ⟨a, r, rfl, hS⟩ := hb.word
  refine ⟨_, rfl, _, _, _, _, rfl, rfl, hS, at0 _ _, _, _, rfl, rfl, nR b, _, rfl, iteF ?_⟩
  exact ⟨_, rfl, _, rfl, _, rfl, _, rfl, hh⟩
end
end BB
set_option maxHeartbeats 4000000
namespace BB
open PySem PySem.Spec PyProof.Rows L2
/-! ### a class without an __init__ -/
structure Mk0 (K : PySem.W.Frag) (C : Addr) : Prop where
  makes : PySem.W.makesIn K C = true
  init : PySem.W.findIn K (.ref C) "__init__" = some (some (.builtin "object.__init__"))
  top : PySem.W.mroIn K C (.type "object") = some true
  kp : PySem.W.keepIn K (.ref C) = true
structure Mak0 (K : PySem.W.Frag) (mg : Str → Option Value) (x : Str) (C : Addr) : Prop where
  mk0 : Mk0 K C
  g : mg x = some (.ref C)
section
variable {X : Cx} {C : Addr} {x : Str} {p pos : Pos}
theorem run_make0 {pins : List (Addr × Obj)} {σ : L2.St} {H : Hp} {s : Shared} {Q : VK} (M : Mk0 X.K C) (I : Inv X pins σ H s)
    (h : ∀ x dx, H x = none → H dx = none → dx ≠ x → Q (.ref x) (upd (upd H dx (.own x)) x (.ins C dx []))) : wpAny (model X.prog X.w) X.A (call (.ref C) []) (EP X pins σ Q) X.xe s := by
  have hq := h (s.heap.objs.size + 1) s.heap.objs.size (I.hok.fresh (Nat.le_succ _)) (I.hok.fresh (Nat.le_refl _)) (Nat.ne_of_lt (Nat.lt_succ_self _))
  have I2 := Inv.made (C := C) I
  refine wpAny_call (make_map0 I.kIn M.makes M.init (fun self => PySem.W.Looks.of_pure (PySem.W.oi_bind _)) ?_)
  have t1 : PySem.W.Looks (model X.prog X.w) ((s.heap.push PySem.W.emptyDict).push (PySem.W.instObj C s.heap.objs.size)) (typeOf (.ref (s.heap.objs.size + 1))) (.ref C) := by
    refine NwA.type_at (o := PySem.W.instObj C s.heap.objs.size) ?_ rfl
    have := Heap.get?_push_size (s.heap.push PySem.W.emptyDict) (o := PySem.W.instObj C s.heap.objs.size) rfl
    rwa [Heap.size_push] at this
  have t2 : PySem.W.Looks (model X.prog X.w) ((s.heap.push PySem.W.emptyDict).push (PySem.W.instObj C s.heap.objs.size)) (isInstance (.ref (s.heap.objs.size + 1)) (.type "object")) true := t1.andThen (PySem.W.looks_mroIn I2.kIn M.top)
  refine codeAny_call_builtin PySem.W.oi_plain PySem.W.entry_oi (PySem.W.check_slot PySem.W.oi_kind PySem.W.oi_split t2 (PySem.W.oi_args _) ?_)
  rw [PySem.W.oi_run]
  exact wpAny_pure ⟨rfl, ⟨V.ref (s.heap.objs.size + 1), _, I2, rfl, hq⟩⟩
def tMake0 (C : Addr) : TE := fun σ H Q => ∀ x dx, H x = none → H dx = none → dx ≠ x → Q (.ref x) (upd (upd H dx (.own x)) x (.ins C dx []))
theorem pe_mk0 (M : Mak0 X.K X.mg x C) (hg : Gl X x) (hdb : (x == ("__debug__" : Str)) = false := by decide) : PE X (.Call (.Name x p) [] [] pos) (tMake0 C) := by
  refine ⟨fun pins s σ H Q I h => ?_⟩
  refine wpAny_Call_Name_kw (ld_glob I hg M.g ?_ hdb)
  exact PySem.W.callWith_K0 I.kIn M.mk0.kp (run_make0 M.mk0 I h)
end
theorem insne {C C' d d' : Addr} {fs fs' : List (Str × V)} (h : fs.length ≠ fs'.length) : HO.ins C d fs ≠ HO.ins C' d' fs' := fun z => by
  injection z with _ _ e
  exact h (by rw [e])
/-! ### games -/
inductive Gm where
  | gen (real : Bool) (blk : Addr) (n m : Nat) (rows : List Bs)
  | fn (real : Bool) (blk : Addr) (n l m : Nat) (tb : List (List Bs))
def Gm.kind : Gm → Str
  | .gen _ _ _ _ _ => "generator"
  | .fn _ _ _ _ _ _ => "function"
def Gm.blk : Gm → Addr
  | .gen _ b _ _ _ => b
  | .fn _ b _ _ _ _ => b
def Gm.real : Gm → Bool
  | .gen r _ _ _ _ => r
  | .fn r _ _ _ _ _ => r
def Gm.bk (K : PySem.W.Frag) (H : Hp) : Gm → Prop
  | .gen _ blk n m rows => GenAt K H blk n m rows ∧ GenOk rows n m ∧ n ≤ 8 ∧ m ≤ 8
  | .fn _ blk n l m tb => FunAt K H blk n l m tb ∧ TabOk tb n l m ∧ n ≤ 8 ∧ l ≤ 8 ∧ m ≤ 8
theorem Gm.bk_tm {K : PySem.W.Frag} {H H' : Hp} {g : Gm} (t : Tm K H H') (h : g.bk K H) : g.bk K H' := by
  cases g with
  | gen r b n m rows => exact ⟨h.1.tm t, h.2⟩
  | fn r b n l m tb => exact ⟨h.1.tm t, h.2⟩
def GmAt (K : PySem.W.Frag) (H : Hp) (a : Addr) (g : Gm) : Prop := SqT K H a [.str g.kind, .ref g.blk, .bl g.real] ∧ g.bk K H
theorem GmAt.tm {K : PySem.W.Frag} {H H' : Hp} {a : Addr} {g : Gm} (t : Tm K H H') (h : GmAt K H a g) : GmAt K H' a g := ⟨t _ _ h.1, Gm.bk_tm t h.2⟩
def Gm.tr (b : Brk) : Gm → Tr
  | .gen true _ n m rows => gReal rows b
  | .gen false _ n m rows => gAny m b
  | .fn true _ n l m tb => fReal (tabF tb m) n l b
  | .fn false _ n l m tb => fAny l m b
/-- what a choice begins -/
def Gm.ok (c : Nat) : Gm → Prop
  | .gen true _ n m rows => c < 2 ^ n
  | .gen false _ n m rows => c < 2 ^ m
  | .fn true _ n l m tb => c < 2 ^ n
  | .fn false _ n l m tb => True
def Gm.ds (c : Nat) : Gm → Path
  | .gen true _ n m rows => [(c, 2 ^ n)]
  | .gen false _ n m rows => [(c, 2 ^ m)]
  | .fn true _ n l m tb => [(c, 2 ^ n)]
  | .fn false _ n l m tb => []
def Gm.ch (c : Nat) : Gm → Bs
  | .gen true _ n m rows => rowAt rows (bitsOf n c)
  | .gen false _ n m rows => bitsOf m c
  | .fn _ _ n l m tb => []
def Gm.wk (c : Nat) : Gm → WK
  | .gen _ _ _ _ _ => .silent
  | .fn true blk n l m tb => .keyed blk n l m tb (bitsOf n c)
  | .fn false _ n l m tb => .any l m []
theorem Gm.ds_len (c : Nat) (g : Gm) : (g.ds c).length ≤ 1 := by
  cases g with
  | gen r b n m rows => cases r <;> simp [Gm.ds]
  | fn r b n l m tb => cases r <;> simp [Gm.ds]
theorem follow_node1 {ts : List Tr} {ch : List Nat} {p : Path} {said : Bs} (e : follow (.node ts) ch = some (p, said)) :
    ∃ t p', ts[ch.headD 0]? = some t ∧ follow t ch.tail = some (p', said) ∧ p = (ch.headD 0, ts.length) :: p' := by
  rw [follow_node] at e
  cases q : ts[ch.headD 0]? with
  | none => rw [q] at e; cases e
  | some t =>
    rw [q] at e
    have e : (follow t ch.tail).map (fun r => ((ch.headD 0, ts.length) :: r.1, r.2)) = some (p, said) := e
    cases q2 : follow t ch.tail with
    | none => rw [q2] at e; cases e
    | some r =>
      rw [q2] at e
      have e := Option.some.inj e
      obtain ⟨p', s'⟩ := r
      cases e
      exact ⟨t, p', rfl, q2, rfl⟩
theorem Gm.start {K : PySem.W.Frag} {H : Hp} {g : Gm} (h : g.bk K H) {b : Brk} {cs : List Nat} {p : Path} {said : Bs} (e : follow (g.tr b) cs = some (p, said)) :
    g.ok (cs.headD 0) ∧ ∃ p', p = g.ds (cs.headD 0) ++ p' ∧ follow (BB.tr b (wdOf (g.wk (cs.headD 0))) (g.ch (cs.headD 0))) (cs.drop (g.ds (cs.headD 0)).length) = some (p', said) := by
  have dt : cs.drop 1 = cs.tail := by cases cs <;> rfl
  cases g with
  | gen r blk n m rows =>
    obtain ⟨_, g, _, _⟩ := h
    cases r with
    | true =>
      obtain ⟨t, p', h1, h2, rfl⟩ := follow_node1 e
      rw [List.getElem?_map] at h1
      obtain ⟨r, hr, rfl⟩ := Option.map_eq_some_iff.mp h1
      have hlt : cs.headD 0 < rows.length := (List.getElem?_eq_some_iff.mp hr).1
      have hlt2 : cs.headD 0 < 2 ^ n := by rw [← g.len]; exact hlt
      refine ⟨hlt2, p', ?_, ?_⟩
      · rw [List.length_map, g.len]; rfl
      · show follow (BB.tr b det0 (rowAt rows (bitsOf n (cs.headD 0)))) (cs.drop 1) = _
        rw [dt, rowAt, numOf_bitsOf _ _ hlt2, List.getD_eq_getElem?_getD, hr]
        exact h2
    | false =>
      obtain ⟨t, p', h1, h2, rfl⟩ := follow_node1 e
      rw [List.getElem?_map] at h1
      obtain ⟨r, hr, rfl⟩ := Option.map_eq_some_iff.mp h1
      have hlt2 : cs.headD 0 < 2 ^ m := by rw [← allBs_length]; exact (List.getElem?_eq_some_iff.mp hr).1
      rw [allBs_get hlt2] at hr
      cases (Option.some.inj hr)
      refine ⟨hlt2, p', ?_, ?_⟩
      · rw [List.length_map, allBs_length]; rfl
      · show follow (BB.tr b det0 (bitsOf m (cs.headD 0))) (cs.drop 1) = _
        rw [dt]
        exact h2
  | fn r blk n l m tb =>
    cases r with
    | true =>
      obtain ⟨t, p', h1, h2, rfl⟩ := follow_node1 e
      rw [List.getElem?_map] at h1
      obtain ⟨r, hr, rfl⟩ := Option.map_eq_some_iff.mp h1
      have hlt2 : cs.headD 0 < 2 ^ n := by have := (List.getElem?_eq_some_iff.mp hr).1; simpa using this
      rw [List.getElem?_range hlt2] at hr
      cases (Option.some.inj hr)
      refine ⟨hlt2, p', ?_, ?_⟩
      · rw [List.length_map, List.length_range]; rfl
      · show follow (BB.tr b (.det (ans (tabF tb m) l (numOf (bitsOf n (cs.headD 0))))) []) (cs.drop 1) = _
        rw [dt, numOf_bitsOf _ _ hlt2]
        exact h2
    | false => exact ⟨trivial, p, rfl, e⟩
theorem sc_KeyedWorld_init : FnScope ["self", "tape", "block"] ["self", "tape", "block"] (defScope s_KeyedWorld_init) := ⟨rfl, rfl, rfl, by decide +kernel, rfl, by decide +kernel, by decide +kernel⟩
theorem sc_AnyWorld_init : FnScope ["self", "tape", "l", "m"] ["self", "tape", "l", "m"] (defScope s_AnyWorld_init) := ⟨rfl, rfl, rfl, by decide +kernel, rfl, by decide +kernel, by decide +kernel⟩
theorem sc_Notes_init : FnScope ["self", "world"] ["self", "world"] (defScope s_Notes_init) := ⟨rfl, rfl, rfl, by decide +kernel, rfl, by decide +kernel, by decide +kernel⟩
theorem sc_Play_init : FnScope ["self", "outcome", "said", "draws", "asked"] ["self", "outcome", "said", "draws", "asked"] (defScope s_Play_init) := ⟨rfl, rfl, rfl, by decide +kernel, rfl, by decide +kernel, by decide +kernel⟩
theorem sc_cover : FnScope ["tape", "block", "real"] ["tape", "block", "real"] (defScope s_cover) := ⟨rfl, rfl, rfl, by decide +kernel, rfl, by decide +kernel, by decide +kernel⟩
theorem sc_function_world : FnScope ["tape", "block", "real"] ["tape", "block", "real"] (defScope s_function_world) := ⟨rfl, rfl, rfl, by decide +kernel, rfl, by decide +kernel, by decide +kernel⟩
theorem sc_Table_init : FnScope ["self", "game", "tape"] ["self", "game", "tape"] (defScope s_Table_init) := ⟨rfl, rfl, rfl, by decide +kernel, rfl, by decide +kernel, by decide +kernel⟩
theorem sc_Table_begin_asks : FnScope ["self", "game", "tape"] ["self"] (defScope s_Table_begin_asks) := ⟨rfl, rfl, rfl, by decide +kernel, rfl, by decide +kernel, by decide +kernel⟩
theorem sc_Table_begin_challenge : FnScope ["self", "game", "tape", "block", "row", "i", "string", "strings", "_", "rows", "x", "r"] ["self"] (defScope s_Table_begin_challenge) := ⟨rfl, rfl, rfl, by decide +kernel, rfl, by decide +kernel, by decide +kernel⟩
theorem sc_Table_has_won : FnScope ["self", "said", "asked", "block"] ["self", "said", "asked"] (defScope s_Table_has_won) := ⟨rfl, rfl, rfl, by decide +kernel, rfl, by decide +kernel, by decide +kernel⟩
theorem sc_played : FnScope ["game", "breaker", "choices", "tape", "table", "notes", "said", "outcome"] ["game", "breaker", "choices"] (defScope s_played) := ⟨rfl, rfl, rfl, by decide +kernel, rfl, by decide +kernel, by decide +kernel⟩
def sp_KW_init (K : PySem.W.Frag) : Sp := fun vs H Q _ => ∃ (x dx blk : Addr) (A : TA') (cs : List Nat) (ds : Path) (n l m : Nat) (tb : List (List Bs)), vs = [.ref x, .ref A.tp, .ref blk] ∧ H x = some (.ins (He.ga K "KeyedWorld") dx []) ∧ TapeAt K A H cs ds ∧ FunAt K H blk n l m tb ∧ n ≤ 40 ∧ cs.getD ds.length 0 < 2 ^ n ∧ ds.length < 1000 ∧
  ∀ H', But [x, A.ld] H H' → TapeAt K A H' cs (ds ++ [(cs.getD ds.length 0, 2 ^ n)]) → H' x = some (.ins (He.ga K "KeyedWorld") dx (fKeyed blk (bitsOf n (cs.getD ds.length 0)))) → Q .non H'
def sp_AW_init (K : PySem.W.Frag) : Sp := fun vs H Q _ => ∃ (x dx tp : Addr) (l m : Nat), vs = [.ref x, .ref tp, .int l, .int m] ∧ H x = some (.ins (He.ga K "AnyWorld") dx []) ∧
  ∀ H' da, But [x] H H' → H da = none → H' da = some (.dK []) → H' x = some (.ins (He.ga K "AnyWorld") dx (fAnyW tp l m da)) → Q .non H'
def sp_Notes_init (K : PySem.W.Frag) : Sp := fun vs H Q _ => ∃ (x dx wa : Addr), vs = [.ref x, .ref wa] ∧ H x = some (.ins (He.ga K "Notes") dx []) ∧
  ∀ H' la, But [x] H H' → H la = none → H' la = some (.lst []) → H' x = some (.ins (He.ga K "Notes") dx (fNotes wa la)) → Q .non H'
def sp_Play_init (K : PySem.W.Frag) : Sp := fun vs H Q _ => ∃ (x dx da la : Addr) (o : Nat) (said : Bs), vs = [.ref x, .int o, vS said, .ref da, .ref la] ∧ H x = some (.ins (He.ga K "Play") dx []) ∧
  ∀ H', But [x] H H' → H' x = some (.ins (He.ga K "Play") dx [("outcome", .int o), ("said", vS said), ("draws", .ref da), ("asked", .ref la)]) → Q .non H'
section
variable {P : Program} {w : World} {K : PySem.W.Frag} {mg : Str → Option Value} {base : Heap}
theorem ok_KeyedWorld_init (B : Bi mg) (G : Gi K mg) (Z : Zs K) (D : Cdf K mg "KeyedWorld" (He.ga K "KeyedWorld") "KeyedWorld.__init__" s_KeyedWorld_init)  (m_string : C8.Met P w K mg base 2 (He.ga K "Tape") "string" (sp_Tape_string K) []) : C8.Mak P w K mg base 3 "KeyedWorld" (He.ga K "KeyedWorld") (sp_KW_init K) [] := by
  refine D.mak sc_KeyedWorld_init (fun _ _ _ _ _ _ us hl => match us, hl with | [_, _, _], _ => rfl) (fun vs H Q E h => ?_) (fun f cdv A outer s H vs Q E hr h => ?_)
  · obtain ⟨x, dx, blk, A, cs, ds, n, l, m, tb, rfl, _⟩ := h
    rfl
  obtain ⟨x, dx, blk, A, cs, ds, n, l, m, tb, rfl, hx, hT, hF, hn, hc, hsz, hQ⟩ := h
  refine ⟨_, (pss_cons (ps_fld (pv 0) (pv 2) rfl)
    (pss_one (ps_fld (pv 0) (C8.pe_mt m_string hr (by omega) (pv 1) (pa_cons (pe_ix ix_tup (pv 2) pe_int (fun _ _ => rfl)) pa_nil)) rfl))), ?_⟩
  refine ⟨_, rfl, _, rfl, x, _, dx, _, rfl, hx, Z.keyed.cl, Z.keyed.na 0, (by show 0 < 1000; decide), ?_⟩
  have b1 : But [x] H (upd H x (.ins (He.ga K "KeyedWorld") dx (putF "block" (.ref blk) []))) := But.upd (by simp)
  have tm1 : Tm K H (upd H x (.ins (He.ga K "KeyedWorld") dx (putF "block" (.ref blk) []))) := Tm.upd (by rw [hx]; trivial)
  obtain ⟨td, hdr, _⟩ := hT.dr
  have nxd : x ≠ A.ld := ne_of hx hdr (by intro z; cases z)
  have nxt : x ≠ A.tp := ne_of hx hT.ob (insne (by simp))
  have nxc : x ≠ A.lc := ne_of hx hT.ch (by intro z; cases z)
  have hT1 := hT.but b1 tm1 (by simpa using nxt.symm) (by simpa using nxc.symm) (by simpa using nxd.symm)
  obtain ⟨q, qs, h1, h2⟩ := hF.tm tm1
  refine ⟨_, rfl, A.tp, _, _, rfl, hT1.ob, rfl, _, rfl, _, _, _, _, rfl, rfl, h1, at1 _ _ _, A, cs, ds, n, rfl, by omega, hT1, hc, hsz, fun H2 hb hT2 => ?_⟩
  have hx2 : H2 x = some (.ins (He.ga K "KeyedWorld") dx (putF "block" (.ref blk) [])) := hb _ _ (by simpa using nxd) upd_same
  refine ⟨_, rfl, x, _, dx, _, rfl, hx2, Z.keyed.cl, Z.keyed.na 1, (by show 1 < 1000; decide), ?_⟩
  have b2 : But [x] H2 (upd H2 x (.ins (He.ga K "KeyedWorld") dx (putF "key" (vS (bitsOf n (cs.getD ds.length 0))) (putF "block" (.ref blk) [])))) := But.upd (by simp)
  refine hQ _ ((b1.mono (by simp)).trans ((hb.mono (by simp)).trans (b2.mono (by simp)))) (hT2.but b2 (Tm.upd (by rw [hx2]; trivial)) (by simpa using nxt.symm) (by simpa using nxc.symm) (by simpa using nxd.symm)) ?_
  rw [upd_same]; rfl
theorem ok_AnyWorld_init (B : Bi mg) (G : Gi K mg) (Z : Zs K) (D : Cdf K mg "AnyWorld" (He.ga K "AnyWorld") "AnyWorld.__init__" s_AnyWorld_init)  : C8.Mak P w K mg base 1 "AnyWorld" (He.ga K "AnyWorld") (sp_AW_init K) [] := by
  refine D.mak sc_AnyWorld_init (fun _ _ _ _ _ _ us hl => match us, hl with | [_, _, _, _], _ => rfl) (fun vs H Q E h => ?_) (fun f cdv A outer s H vs Q E hr h => ?_)
  · obtain ⟨x, dx, tp, l, m, rfl, _⟩ := h
    rfl
  obtain ⟨x, dx, tp, l, m, rfl, hx, hQ⟩ := h
  refine ⟨_, (pss_cons (ps_fld (pv 0) (pv 1) rfl)
    (pss_cons (ps_fld (pv 0) (pv 2) rfl)
    (pss_cons (ps_fld (pv 0) (pv 3) rfl)
    (pss_one (ps_fld (pv 0) pe_dnewK rfl))))), ?_⟩
  refine ⟨_, rfl, _, rfl, x, _, dx, _, rfl, hx, Z.any.cl, Z.any.na 0, (by show 0 < 1000; decide), ?_⟩
  refine ⟨_, rfl, _, rfl, x, _, dx, _, rfl, upd_same, Z.any.cl, Z.any.na 1, (by show 1 < 1000; decide), ?_⟩
  refine ⟨_, rfl, _, rfl, x, _, dx, _, rfl, upd_same, Z.any.cl, Z.any.na 2, (by show 2 < 1000; decide), ?_⟩
  intro da hda
  have nxd : x ≠ da := fun e => by rw [← e, upd_same] at hda; cases hda
  have hda0 : H da = none := by rw [upd_ne nxd.symm, upd_ne nxd.symm, upd_ne nxd.symm] at hda; exact hda
  refine ⟨_, rfl, x, _, dx, _, rfl, by rw [upd_ne nxd]; exact upd_same, Z.any.cl, Z.any.na 3, (by show 3 < 1000; decide), ?_⟩
  refine hQ _ da (fun b o nb q => ?_) hda0 ?_ ?_
  · have nb : b ≠ x := by simpa using nb
    rw [upd_ne nb, upd_ne (ne_of_none q hda0), upd_ne nb, upd_ne nb, upd_ne nb]; exact q
  · rw [upd_ne nxd.symm, upd_same]
  · rw [upd_same]; rfl
theorem ok_Notes_init (B : Bi mg) (G : Gi K mg) (Z : Zs K) (D : Cdf K mg "Notes" (He.ga K "Notes") "Notes.__init__" s_Notes_init)  : C8.Mak P w K mg base 1 "Notes" (He.ga K "Notes") (sp_Notes_init K) [] := by
  refine D.mak sc_Notes_init (fun _ _ _ _ _ _ us hl => match us, hl with | [_, _], _ => rfl) (fun vs H Q E h => ?_) (fun f cdv A outer s H vs Q E hr h => ?_)
  · obtain ⟨x, dx, wa, rfl, _⟩ := h
    rfl
  obtain ⟨x, dx, wa, rfl, hx, hQ⟩ := h
  refine ⟨_, (pss_cons (ps_fld (pv 0) (pv 1) rfl)
    (pss_one (ps_fld (pv 0) (pe_lst pa_nil) rfl))), ?_⟩
  refine ⟨_, rfl, _, rfl, x, _, dx, _, rfl, hx, Z.notes.cl, Z.notes.na 0, (by show 0 < 1000; decide), ?_⟩
  refine ⟨Nat.zero_le _, fun la hla => ?_⟩
  have nxd : x ≠ la := fun e => by rw [← e, upd_same] at hla; cases hla
  have hla0 : H la = none := by rw [upd_ne nxd.symm] at hla; exact hla
  refine ⟨_, rfl, x, _, dx, _, rfl, by rw [upd_ne nxd]; exact upd_same, Z.notes.cl, Z.notes.na 1, (by show 1 < 1000; decide), ?_⟩
  refine hQ _ la (fun b o nb q => ?_) hla0 ?_ ?_
  · have nb : b ≠ x := by simpa using nb
    rw [upd_ne nb, upd_ne (ne_of_none q hla0), upd_ne nb]; exact q
  · rw [upd_ne nxd.symm, upd_same]
  · rw [upd_same]; rfl
theorem ok_Play_init (B : Bi mg) (G : Gi K mg) (Z : Zs K) (D : Cdf K mg "Play" (He.ga K "Play") "Play.__init__" s_Play_init)  : C8.Mak P w K mg base 1 "Play" (He.ga K "Play") (sp_Play_init K) [] := by
  refine D.mak sc_Play_init (fun _ _ _ _ _ _ us hl => match us, hl with | [_, _, _, _, _], _ => rfl) (fun vs H Q E h => ?_) (fun f cdv A outer s H vs Q E hr h => ?_)
  · obtain ⟨x, dx, da, la, o, said, rfl, _⟩ := h
    rfl
  obtain ⟨x, dx, da, la, o, said, rfl, hx, hQ⟩ := h
  refine ⟨_, (pss_cons (ps_fld (pv 0) (pv 1) rfl)
    (pss_cons (ps_fld (pv 0) (pv 2) rfl)
    (pss_cons (ps_fld (pv 0) (pv 3) rfl)
    (pss_one (ps_fld (pv 0) (pv 4) rfl))))), ?_⟩
  refine ⟨_, rfl, _, rfl, x, _, dx, _, rfl, hx, Z.play.cl, Z.play.na 0, (by show 0 < 1000; decide), ?_⟩
  refine ⟨_, rfl, _, rfl, x, _, dx, _, rfl, upd_same, Z.play.cl, Z.play.na 1, (by show 1 < 1000; decide), ?_⟩
  refine ⟨_, rfl, _, rfl, x, _, dx, _, rfl, upd_same, Z.play.cl, Z.play.na 2, (by show 2 < 1000; decide), ?_⟩
  refine ⟨_, rfl, _, rfl, x, _, dx, _, rfl, upd_same, Z.play.cl, Z.play.na 3, (by show 3 < 1000; decide), ?_⟩
  refine hQ _ (fun b o nb q => ?_) ?_
  · have nb : b ≠ x := by simpa using nb
    rw [upd_ne nb, upd_ne nb, upd_ne nb, upd_ne nb]; exact q
  · rw [upd_same]; rfl
end
def sp_cover (K : PySem.W.Frag) : Sp := fun vs H Q _ => ∃ (A : TA') (cs : List Nat) (r : Bool) (blk : Addr) (n m : Nat) (rows : List Bs), vs = [.ref A.tp, .ref blk, .bl r] ∧ TapeAt K A H cs [] ∧ (Gm.gen r blk n m rows).bk K H ∧ (Gm.gen r blk n m rows).ok (cs.headD 0) ∧
  ∀ H', But [A.ld] H H' → TapeAt K A H' cs ((Gm.gen r blk n m rows).ds (cs.headD 0)) → Q (vS ((Gm.gen r blk n m rows).ch (cs.headD 0))) H'
def sp_function_world (K : PySem.W.Frag) : Sp := fun vs H Q _ => ∃ (A : TA') (cs : List Nat) (r : Bool) (blk : Addr) (n l m : Nat) (tb : List (List Bs)), vs = [.ref A.tp, .ref blk, .bl r] ∧ TapeAt K A H cs [] ∧ (Gm.fn r blk n l m tb).bk K H ∧ (Gm.fn r blk n l m tb).ok (cs.headD 0) ∧
  ∀ (R : RA) H', R.A = A → But [A.ld] H H' → TapeAt K A H' cs ((Gm.fn r blk n l m tb).ds (cs.headD 0)) → WAt K R H' ((Gm.fn r blk n l m tb).wk (cs.headD 0)) → (R.da = A.ld ∨ r = false ∧ H R.da = none) → Q (.ref R.wa) H'
theorem head_getD {cs : List Nat} : cs.getD 0 0 = cs.headD 0 := by cases cs <;> rfl
section
variable {P : Program} {w : World} {K : PySem.W.Frag} {mg : Str → Option Value} {base : Heap}
theorem ok_cover (B : Bi mg) (G : Gi K mg) (D : Dfn K mg "cover" s_cover)  (c_row_at : C8.Cal P w K mg base 2 "row_at" (sp_row_at K) []) (m_string : C8.Met P w K mg base 2 (He.ga K "Tape") "string" (sp_Tape_string K) []) : C8.Cal P w K mg base 3 "cover" (sp_cover K) [] := by
  refine D.cal sc_cover (fun _ _ _ _ _ _ us hl => match us, hl with | [_, _, _], _ => rfl) (fun vs H Q E h => ?_) (fun f cdv A outer s H vs Q E hr h => ?_)
  · obtain ⟨A, cs, r, blk, n, m, rows, rfl, _⟩ := h
    rfl
  obtain ⟨A, cs, r, blk, n, m, rows, rfl, hT, hbk, hok, hQ⟩ := h
  refine ⟨_, (pss_cons (ps_if (pt_val (pv 2)) (pss_one (ps_ret (C8.pe_c c_row_at hr (by omega) rfl (pa_cons (pv 1) (pa_cons (C8.pe_mt m_string hr (by omega) (pv 0) (pa_cons (pe_ix ix_tup (pv 1) pe_int (fun _ _ => rfl)) pa_nil)) pa_nil))))) pss_nil)
    (pss_one (ps_ret (C8.pe_mt m_string hr (by omega) (pv 0) (pa_cons (pe_ix ix_tup (pv 1) pe_int (fun _ _ => rfl)) pa_nil))))), ?_⟩
  obtain ⟨hG, g, hn, hm⟩ := hbk
  obtain ⟨q, h1, h2⟩ := id hG
  obtain ⟨td, hdr, _⟩ := hT.dr
  cases r with
  | true =>
    have hok : cs.headD 0 < 2 ^ n := hok
    refine ⟨_, rfl, _, rfl, iteT ?_⟩
    refine ⟨_, rfl, _, rfl, A.tp, _, _, rfl, hT.ob, rfl, _, rfl, _, _, _, _, rfl, rfl, h1, at1 _ _ _, A, cs, [], n, rfl, by omega, hT, by show cs.getD 0 0 < _; rw [head_getD]; exact hok, by decide, fun H2 hb hT2 => ?_⟩
    have tm := hb.tm (K := K) (fun b hb => by rw [List.mem_singleton.mp hb, hdr]; trivial)
    refine ⟨blk, n, m, rows, _, rfl, hG.tm tm, ?_, by rw [bitsOf_length]; omega, ?_⟩
    · show numOf (bitsOf n (cs.getD 0 0)) < _
      rw [head_getD, numOf_bitsOf _ _ hok, g.len]; exact hok
    · have := hQ H2 hb (by have := hT2; rw [List.nil_append] at this; have e : cs.getD ([] : Path).length 0 = cs.headD 0 := head_getD; rw [e] at this; exact this)
      have e : cs.getD ([] : Path).length 0 = cs.headD 0 := head_getD
      rw [e]
      exact this
  | false =>
    have hok : cs.headD 0 < 2 ^ m := hok
    refine ⟨_, rfl, _, rfl, iteF ?_⟩
    refine ⟨_, rfl, A.tp, _, _, rfl, hT.ob, rfl, _, rfl, _, _, _, _, rfl, rfl, h1, at2 _ _ _ _, A, cs, [], m, rfl, by omega, hT, by show cs.getD 0 0 < _; rw [head_getD]; exact hok, by decide, fun H2 hb hT2 => ?_⟩
    have := hQ H2 hb (by have := hT2; rw [List.nil_append] at this; have e : cs.getD ([] : Path).length 0 = cs.headD 0 := head_getD; rw [e] at this; exact this)
    have e : cs.getD ([] : Path).length 0 = cs.headD 0 := head_getD
    rw [e]
    exact this
theorem ok_function_world (B : Bi mg) (G : Gi K mg) (D : Dfn K mg "function_world" s_function_world)  (Z : Zs K) (k_KeyedWorld : C8.Mak P w K mg base 3 "KeyedWorld" (He.ga K "KeyedWorld") (sp_KW_init K) []) (k_AnyWorld : C8.Mak P w K mg base 1 "AnyWorld" (He.ga K "AnyWorld") (sp_AW_init K) []) : C8.Cal P w K mg base 5 "function_world" (sp_function_world K) [] := by
  refine D.cal sc_function_world (fun _ _ _ _ _ _ us hl => match us, hl with | [_, _, _], _ => rfl) (fun vs H Q E h => ?_) (fun f cdv A outer s H vs Q E hr h => ?_)
  · obtain ⟨A, cs, r, blk, n, l, m, tb, rfl, _⟩ := h
    rfl
  obtain ⟨A, cs, r, blk, n, l, m, tb, rfl, hT, hbk, hok, hQ⟩ := h
  refine ⟨_, (pss_one (ps_ret (pe_ifExp (pt_val (pv 2)) (C8.pe_mk k_KeyedWorld hr (by decide) rfl (pa_cons (pv 0) (pa_cons (pv 1) pa_nil))) (C8.pe_mk k_AnyWorld hr (by decide) rfl (pa_cons (pv 0) (pa_cons (pe_ix ix_tup (pv 1) pe_int (fun _ _ => rfl)) (pa_cons (pe_ix ix_tup (pv 1) pe_int (fun _ _ => rfl)) pa_nil))))))), ?_⟩
  obtain ⟨hF, g, hn, hl, hm⟩ := hbk
  obtain ⟨td, hdr, _⟩ := hT.dr
  cases r with
  | true =>
    have hok : cs.headD 0 < 2 ^ n := hok
    have e : cs.getD ([] : Path).length 0 = cs.headD 0 := head_getD
    refine ⟨_, rfl, _, rfl, iteT ?_⟩
    refine ⟨_, rfl, _, rfl, fun x dx nx ndx nex => ?_⟩
    have s1 : Same H (upd (upd H dx (.own x)) x (.ins (He.ga K "KeyedWorld") dx [])) := (Same.new ndx).trans (Same.new (by rw [upd_ne nex.symm]; exact nx))
    refine ⟨x, dx, blk, A, cs, [], n, l, m, tb, rfl, upd_same, hT.but (S := []) s1.but s1.tm (by simp) (by simp) (by simp), hF.tm s1.tm, by omega, by rw [e]; exact hok, by decide, fun H2 hb hT2 hx2 => ⟨rfl, ?_⟩⟩
    rw [e, List.nil_append] at hT2
    rw [e] at hx2
    have hb2 : But [A.ld] H H2 := fun b o nb q => hb b o (by
      intro z
      rcases List.mem_cons.mp z with z | z
      · rw [z, nx] at q; cases q
      · exact nb z) (s1 b o q)
    have tm : Tm K H H2 := hb2.tm (K := K) (fun b hb => by rw [List.mem_singleton.mp hb, hdr]; trivial)
    exact hQ ⟨A, x, x, x, x, dx, A.ld⟩ H2 rfl hb2 hT2 ⟨hx2, hF.tm tm, g, bitsOf_length _ _, hn, hl, hm⟩ (.inl rfl)
  | false =>
    obtain ⟨q, qs, h1, h2⟩ := id hF
    refine ⟨_, rfl, _, rfl, iteF ?_⟩
    refine ⟨_, rfl, _, rfl, _, _, _, _, rfl, rfl, h1, at2 _ _ _ _, _, rfl, _, _, _, _, rfl, rfl, h1, at3 _ _ _ _ _, fun x dx nx ndx nex => ?_⟩
    have s1 : Same H (upd (upd H dx (.own x)) x (.ins (He.ga K "AnyWorld") dx [])) := (Same.new ndx).trans (Same.new (by rw [upd_ne nex.symm]; exact nx))
    refine ⟨x, dx, A.tp, l, m, rfl, upd_same, fun H2 da hb hda hd2 hx2 => ⟨rfl, ?_⟩⟩
    have hb2 : Same H H2 := fun b o q => hb b o (by simpa using ne_of_none q nx) (s1 b o q)
    exact hQ ⟨A, x, x, x, x, dx, da⟩ H2 rfl hb2.but (hT.but (S := []) hb2.but hb2.tm (by simp) (by simp) (by simp)) ⟨hx2, hd2, hm, hl, fun p hp => by cases hp⟩ (.inr ⟨rfl, by
      cases e : H da with
      | none => rfl
      | some o => exact absurd hda (by rw [s1 _ _ e]; simp)⟩)
end
end BB
set_option maxHeartbeats 4000000
namespace BB
open PySem PySem.Spec PyProof.Rows L2
abbrev fTable (g tp : Addr) (kind : Str) (ch : V) (wa : Addr) : List (Str × V) := [("game", .ref g), ("tape", .ref tp), ("kind", .str kind), ("challenge", ch), ("world", .ref wa), ("secret", .non)]
def sp_begin_asks (K : PySem.W.Frag) : Sp := fun vs H Q _ => ∃ (x dx g wa : Addr) (A : TA') (cs : List Nat) (r : Bool) (blk : Addr) (n l m : Nat) (tb : List (List Bs)), vs = [.ref x] ∧ H x = some (.ins (He.ga K "Table") dx (fTable g A.tp "function" (.str "") wa)) ∧ GmAt K H g (.fn r blk n l m tb) ∧ TapeAt K A H cs [] ∧ (Gm.fn r blk n l m tb).ok (cs.headD 0) ∧
  ∀ (R : RA) H', R.A = A → But [x, A.ld] H H' → TapeAt K A H' cs ((Gm.fn r blk n l m tb).ds (cs.headD 0)) → WAt K R H' ((Gm.fn r blk n l m tb).wk (cs.headD 0)) → (R.da = A.ld ∨ r = false ∧ H R.da = none) → H' x = some (.ins (He.ga K "Table") dx (fTable g A.tp "function" (.str "") R.wa)) → Q .non H'
def sp_begin_challenge (K : PySem.W.Frag) : Sp := fun vs H Q _ => ∃ (x dx g wa : Addr) (A : TA') (cs : List Nat) (r : Bool) (blk : Addr) (n m : Nat) (rows : List Bs), vs = [.ref x] ∧ H x = some (.ins (He.ga K "Table") dx (fTable g A.tp "generator" (.str "") wa)) ∧ GmAt K H g (.gen r blk n m rows) ∧ TapeAt K A H cs [] ∧ (Gm.gen r blk n m rows).ok (cs.headD 0) ∧
  ∀ H', But [x, A.ld] H H' → TapeAt K A H' cs ((Gm.gen r blk n m rows).ds (cs.headD 0)) → H' x = some (.ins (He.ga K "Table") dx (fTable g A.tp "generator" (vS ((Gm.gen r blk n m rows).ch (cs.headD 0))) wa)) → Q .non H'
def sp_Table_init (K : PySem.W.Frag) : Sp := fun vs H Q _ => ∃ (x dx g : Addr) (A : TA') (cs : List Nat) (gm : Gm), vs = [.ref x, .ref g, .ref A.tp] ∧ H x = some (.ins (He.ga K "Table") dx []) ∧ GmAt K H g gm ∧ TapeAt K A H cs [] ∧ gm.ok (cs.headD 0) ∧
  ∀ (R : RA) H', R.A = A → But [x, A.ld] H H' → TapeAt K A H' cs (gm.ds (cs.headD 0)) → WAt K R H' (gm.wk (cs.headD 0)) → (R.da = A.ld ∨ clsOf (gm.wk (cs.headD 0)) = "AnyWorld" ∧ H R.da = none) → H' x = some (.ins (He.ga K "Table") dx (fTable g A.tp gm.kind (vS (gm.ch (cs.headD 0))) R.wa)) → Q .non H'
def sp_has_won (K : PySem.W.Frag) : Sp := fun vs H Q _ => ∃ (x dx g tp wa : Addr) (gm : Gm) (ch : V) (said : Bs) (u : V), vs = [.ref x, vS said, u] ∧ H x = some (.ins (He.ga K "Table") dx (fTable g tp gm.kind ch wa)) ∧ Q (.bl (won said)) H
theorem gk2 (g : Gm) : g.kind = "generator" ∨ g.kind = "function" := by cases g <;> simp [Gm.kind]
theorem gk_marks (g : Gm) : decide (V.str g.kind = V.str "marks") = false := by rcases gk2 g with e | e <;> rw [e] <;> decide +kernel
theorem gk_next (g : Gm) : decide (V.str g.kind = V.str "next") = false := by rcases gk2 g with e | e <;> rw [e] <;> decide +kernel
theorem gk_hard (g : Gm) : decide (V.str g.kind = V.str "hard") = false := by rcases gk2 g with e | e <;> rw [e] <;> decide +kernel
theorem gk_inverse (g : Gm) : decide (V.str g.kind = V.str "inverse") = false := by rcases gk2 g with e | e <;> rw [e] <;> decide +kernel
theorem gk_onetime (g : Gm) : decide (V.str g.kind = V.str "onetime") = false := by rcases gk2 g with e | e <;> rw [e] <;> decide +kernel
theorem gk_perm : decide (V.str "function" = V.str "permutation") = false := by decide +kernel
theorem gk_swaps : decide (V.str "function" = V.str "swaps") = false := by decide +kernel
theorem gk_secrets : decide (V.str "function" = V.str "secrets") = false := by decide +kernel
theorem gk_gen : decide (V.str "generator" = V.str "generator") = true := by decide +kernel
theorem gk_inG : inV (.str "generator") [.str "permutation", .str "swaps", .str "function", .str "marks", .str "secrets"] = false := by decide +kernel
theorem gk_inF : inV (.str "function") [.str "permutation", .str "swaps", .str "function", .str "marks", .str "secrets"] = true := by decide +kernel
section
variable {P : Program} {w : World} {K : PySem.W.Frag} {mg : Str → Option Value} {base : Heap}
theorem ok_Table_has_won (B : Bi mg) (G : Gi K mg) (Z : Zs K) (D : Mdf K (He.ga K "Table") "has_won" "Table.has_won" s_Table_has_won)  : C8.Met P w K mg base 1 (He.ga K "Table") "has_won" (sp_has_won K) [] := by
  refine D.met sc_Table_has_won (fun _ _ _ _ _ _ us hl => match us, hl with | [_, _, _], _ => rfl) (fun vs H Q E h => ?_) (fun f cdv A outer s H vs Q E hr h => ?_)
  · obtain ⟨x, dx, g, tp, wa, gm, ch, said, u, rfl, _⟩ := h
    rfl
  obtain ⟨x, dx, g, tp, wa, gm, ch, said, u, rfl, hx, hQ⟩ := h
  refine ⟨_, (pss_cons (ps_if (pt_cmpR op_eq (pe_fld (pv 0) rfl) pe_str (nomark _)) (pss_one ps_never) pss_nil)
    (pss_cons (ps_if (PW.pt (pw_or (pt_cmpR op_eq (pe_fld (pv 0) rfl) pe_str (nomark _)) (pw_or1 (pt_cmpR op_eq (pe_fld (pv 0) rfl) pe_str (nomark _))))) (pss_one ps_never) pss_nil)
    (pss_cons (ps_if (pt_cmpR op_eq (pe_fld (pv 0) rfl) pe_str (nomark _)) (pss_cons ps_never
      (pss_one ps_never)) pss_nil)
    (pss_cons (ps_if (pt_cmpR op_eq (pe_fld (pv 0) rfl) pe_str (nomark _)) (pss_one ps_never) pss_nil)
    (pss_one (ps_ret (pe_cmpR op_eq (pv 1) pe_str (nomark _)))))))), ?_⟩
  refine ⟨_, rfl, x, _, dx, _, _, rfl, hx, Z.table.cl, Z.table.na 2, rfl, rfl, _, rfl, ?_⟩
  rw [gk_marks]
  refine iteF ?_
  refine ⟨_, rfl, x, _, dx, _, _, rfl, hx, Z.table.cl, Z.table.na 2, rfl, rfl, _, rfl, ?_⟩
  rw [gk_next]
  refine iteF ?_
  refine ⟨_, rfl, x, _, dx, _, _, rfl, hx, Z.table.cl, Z.table.na 2, rfl, rfl, _, rfl, ?_⟩
  rw [gk_hard]
  refine iteF ?_
  refine ⟨_, rfl, x, _, dx, _, _, rfl, hx, Z.table.cl, Z.table.na 2, rfl, rfl, _, rfl, ?_⟩
  rw [gk_inverse]
  refine iteF ?_
  refine ⟨_, rfl, x, _, dx, _, _, rfl, hx, Z.table.cl, Z.table.na 2, rfl, rfl, _, rfl, ?_⟩
  rw [gk_onetime]
  refine iteF ?_
  refine ⟨_, rfl, rfl, ?_⟩
  rw [show V.str "1" = vS [true] from congrArg V.str s1, dec_vS]
  rw [show won said = decide (said = [true]) from by unfold won; rw [Bool.eq_iff_iff]; simp] at hQ
  exact hQ
theorem ok_Table_begin_challenge (B : Bi mg) (G : Gi K mg) (Z : Zs K) (D : Mdf K (He.ga K "Table") "begin_challenge" "Table.begin_challenge" s_Table_begin_challenge)  (c_cover : C8.Cal P w K mg base 3 "cover" (sp_cover K) []) : C8.Met P w K mg base 4 (He.ga K "Table") "begin_challenge" (sp_begin_challenge K) [] := by
  refine D.met sc_Table_begin_challenge (fun _ _ _ _ _ _ us hl => match us, hl with | [_], _ => rfl) (fun vs H Q E h => ?_) (fun f cdv A outer s H vs Q E hr h => ?_)
  · obtain ⟨x, dx, g, wa, A, cs, r, blk, n, m, rows, rfl, _⟩ := h
    rfl
  obtain ⟨x, dx, g, wa, A, cs, r, blk, n, m, rows, rfl, hx, hg, hT, hok, hQ⟩ := h
  refine ⟨_, (pss_cons (ps_asg (pe_tup (pa_cons (pe_fld (pv 0) rfl) (pa_cons (pe_fld (pv 0) rfl) (pa_cons (pe_ix ix_tup (pe_fld (pv 0) rfl) pe_int (fun _ _ => rfl)) pa_nil)))) (pg_tup rfl (pgs_cons (pg_name (i := 1) sc_Table_begin_challenge.nd rfl (Or.inl rfl)) (pgs_cons (pg_name (i := 2) sc_Table_begin_challenge.nd rfl (Or.inr rfl)) (pgs_cons (pg_name (i := 3) sc_Table_begin_challenge.nd rfl (Or.inr rfl)) pgs_nil)))))
    (pss_one (ps_if (pt_cmpR op_eq (pe_fld (pv 0) rfl) pe_str (nomark _)) (pss_one (ps_fld (pv 0) (C8.pe_c c_cover hr (by omega) rfl (pa_cons (pv 2) (pa_cons (pv 3) (pa_cons (pe_ix ix_tup (pv 1) pe_int (fun _ _ => rfl)) pa_nil)))) rfl)) (pss_one ps_never)))), ?_⟩
  refine ⟨_, rfl, x, _, dx, _, _, rfl, hx, Z.table.cl, Z.table.na 0, rfl, _, rfl, x, _, dx, _, _, rfl, hx, Z.table.cl, Z.table.na 1, rfl, _, rfl, x, _, dx, _, _, rfl, hx, Z.table.cl, Z.table.na 0, rfl, _, _, _, _, rfl, rfl, hg.1, at1 _ _ _, (by show 3 ≤ sizeLine; decide), fun t ht => ?_⟩
  refine ⟨t, _, rfl, .inl (.inl upd_same), rfl, _, _, rfl, _, _, rfl, _, _, rfl, rfl, ?_⟩
  have s1 : Same H (upd H t (.tup [.ref g, .ref A.tp, .ref (Gm.gen r blk n m rows).blk])) := Same.new ht
  replace hT := hT.but (S := []) s1.but s1.tm (by simp) (by simp) (by simp)
  replace hg := hg.tm s1.tm
  replace hx := s1 _ _ hx
  generalize eH : upd H t _ = H1 at s1 hT hg hx ⊢
  refine ⟨_, rfl, x, _, dx, _, _, rfl, hx, Z.table.cl, Z.table.na 2, rfl, rfl, _, rfl, ?_⟩
  rw [gk_gen]
  refine iteT ?_
  obtain ⟨td, hdr, _⟩ := hT.dr
  have nxd : x ≠ A.ld := ne_of hx hdr (by intro z; cases z)
  have nxt : x ≠ A.tp := ne_of hx hT.ob (insne (by simp))
  have nxc : x ≠ A.lc := ne_of hx hT.ch (by intro z; cases z)
  refine ⟨_, rfl, _, rfl, _, rfl, _, _, _, _, rfl, rfl, hg.1, at2 _ _ _ _, A, cs, r, blk, n, m, rows, rfl, hT, hg.2, hok, fun H2 hb hT2 => ?_⟩
  have hx2 := hb _ _ (by simpa using nxd) hx
  refine ⟨_, rfl, x, _, dx, _, rfl, hx2, Z.table.cl, Z.table.na 3, (by show 6 < 1000; decide), ?_⟩
  have b2 : But [x] H2 (upd H2 x (.ins (He.ga K "Table") dx (putF "challenge" (vS ((Gm.gen r blk n m rows).ch (cs.headD 0))) (fTable g A.tp "generator" (.str "") wa)))) := But.upd (by simp)
  refine hQ _ (s1.but.trans ((hb.mono (by simp)).trans (b2.mono (by simp)))) (hT2.but b2 (Tm.upd (by rw [hx2]; trivial)) (by simpa using nxt.symm) (by simpa using nxc.symm) (by simpa using nxd.symm)) ?_
  rw [upd_same]; rfl
theorem ok_Table_begin_asks (B : Bi mg) (G : Gi K mg) (Z : Zs K) (D : Mdf K (He.ga K "Table") "begin_asks" "Table.begin_asks" s_Table_begin_asks)  (c_function_world : C8.Cal P w K mg base 5 "function_world" (sp_function_world K) []) : C8.Met P w K mg base 6 (He.ga K "Table") "begin_asks" (sp_begin_asks K) [] := by
  refine D.met sc_Table_begin_asks (fun _ _ _ _ _ _ us hl => match us, hl with | [_], _ => rfl) (fun vs H Q E h => ?_) (fun f cdv A outer s H vs Q E hr h => ?_)
  · obtain ⟨x, dx, g, wa, A, cs, r, blk, n, l, m, tb, rfl, _⟩ := h
    rfl
  obtain ⟨x, dx, g, wa, A, cs, r, blk, n, l, m, tb, rfl, hx, hg, hT, hok, hQ⟩ := h
  refine ⟨_, (pss_cons (ps_par (i := 1) (j := 2) rfl sc_Table_begin_asks.nd rfl rfl (by decide) rfl rfl (pa_cons (pe_fld (pv 0) rfl) (pa_cons (pe_fld (pv 0) rfl) pa_nil)) (by rfl))
    (pss_one (ps_if (pt_cmpR op_eq (pe_fld (pv 0) rfl) pe_str (nomark _)) (pss_one ps_never) (pss_one (ps_if (pt_cmpR op_eq (pe_fld (pv 0) rfl) pe_str (nomark _)) (pss_one ps_never) (pss_cons (ps_fld (pv 0) (C8.pe_c c_function_world hr (by omega) rfl (pa_cons (pv 2) (pa_cons (pe_ix ix_tup (pv 1) pe_int (fun _ _ => rfl)) (pa_cons (pe_ix ix_tup (pv 1) pe_int (fun _ _ => rfl)) pa_nil)))) rfl)
        (pss_one (ps_if (pt_cmpR op_eq (pe_fld (pv 0) rfl) pe_str (nomark _)) (pss_one ps_never) pss_nil)))))))), ?_⟩
  refine ⟨_, rfl, x, _, dx, _, _, rfl, hx, Z.table.cl, Z.table.na 0, rfl, _, rfl, x, _, dx, _, _, rfl, hx, Z.table.cl, Z.table.na 1, rfl, _, _, rfl, ?_⟩
  refine ⟨_, rfl, x, _, dx, _, _, rfl, hx, Z.table.cl, Z.table.na 2, rfl, rfl, _, rfl, ?_⟩
  rw [gk_perm]
  refine iteF ?_
  refine ⟨_, rfl, x, _, dx, _, _, rfl, hx, Z.table.cl, Z.table.na 2, rfl, rfl, _, rfl, ?_⟩
  rw [gk_swaps]
  refine iteF ?_
  obtain ⟨td, hdr, _⟩ := hT.dr
  have nxd : x ≠ A.ld := ne_of hx hdr (by intro z; cases z)
  have nxt : x ≠ A.tp := ne_of hx hT.ob (insne (by simp))
  have nxc : x ≠ A.lc := ne_of hx hT.ch (by intro z; cases z)
  refine ⟨_, rfl, _, rfl, _, _, _, _, rfl, rfl, hg.1, at1 _ _ _, _, rfl, _, _, _, _, rfl, rfl, hg.1, at2 _ _ _ _, A, cs, r, blk, n, l, m, tb, rfl, hT, hg.2, hok, fun R H2 hRA hb hT2 hW hda => ?_⟩
  have hx2 := hb _ _ (by simpa using nxd) hx
  refine ⟨_, rfl, x, _, dx, _, rfl, hx2, Z.table.cl, Z.table.na 4, (by show 6 < 1000; decide), ?_⟩
  have b2 : But [x] H2 (upd H2 x (.ins (He.ga K "Table") dx (putF "world" (.ref R.wa) (fTable g A.tp "function" (.str "") wa)))) := But.upd (by simp)
  have tm2 : Tm K H2 (upd H2 x (.ins (He.ga K "Table") dx (putF "world" (.ref R.wa) (fTable g A.tp "function" (.str "") wa)))) := Tm.upd (by rw [hx2]; trivial)
  have nwx : R.wa ≠ x := by
    cases r with
    | true => exact ne_of hW.1 hx2 (insne (by simp))
    | false => exact ne_of hW.1 hx2 (insne (by simp))
  refine ⟨_, rfl, x, _, dx, _, _, rfl, upd_same, Z.table.cl, Z.table.na 2, rfl, rfl, _, rfl, ?_⟩
  rw [gk_secrets]
  refine iteF ?_
  refine hQ R _ hRA ((hb.mono (by simp)).trans (b2.mono (by simp))) (hT2.but b2 tm2 (by simpa using nxt.symm) (by simpa using nxc.symm) (by simpa using nxd.symm)) (hW.but b2 tm2 (by simpa using nwx) (fun kvs e => by simpa using ne_of e hx2 (by intro z; cases z))) hda ?_
  rw [upd_same]; rfl
theorem ok_Table_init (B : Bi mg) (G : Gi K mg) (Z : Zs K) (D : Cdf K mg "Table" (He.ga K "Table") "Table.__init__" s_Table_init)  (k_Silent : Mak0 K mg "Silent" (He.ga K "Silent")) (m_begin_asks : C8.Met P w K mg base 6 (He.ga K "Table") "begin_asks" (sp_begin_asks K) []) (m_begin_challenge : C8.Met P w K mg base 4 (He.ga K "Table") "begin_challenge" (sp_begin_challenge K) []) : C8.Mak P w K mg base 7 "Table" (He.ga K "Table") (sp_Table_init K) [] := by
  refine D.mak sc_Table_init (fun _ _ _ _ _ _ us hl => match us, hl with | [_, _, _], _ => rfl) (fun vs H Q E h => ?_) (fun f cdv A outer s H vs Q E hr h => ?_)
  · obtain ⟨x, dx, g, A, cs, gm, rfl, _⟩ := h
    rfl
  obtain ⟨x, dx, g, A, cs, gm, rfl, hx, hg, hT, hok, hQ⟩ := h
  refine ⟨_, (pss_cons (ps_fld (pv 0) (pv 1) rfl)
    (pss_cons (ps_fld (pv 0) (pv 2) rfl)
    (pss_cons (ps_fld (pv 0) (pe_ix ix_tup (pv 1) pe_int (fun _ _ => rfl)) rfl)
    (pss_cons (ps_fld (pv 0) pe_str rfl)
    (pss_cons (ps_fld (pv 0) (pe_mk0 k_Silent rfl) rfl)
    (pss_cons (ps_fld (pv 0) pe_non rfl)
    (pss_one (ps_if (pt_cmpR op_in_seq (pe_fld (pv 0) rfl) (pe_tup (pa_cons pe_str (pa_cons pe_str (pa_cons pe_str (pa_cons pe_str (pa_cons pe_str pa_nil)))))) (by rfl)) (pss_one (ps_expr (C8.pe_mt0 m_begin_asks hr (by omega) (pv 0)))) (pss_one (ps_expr (C8.pe_mt0 m_begin_challenge hr (by omega) (pv 0)))))))))))), ?_⟩
  obtain ⟨td, hdr, _⟩ := hT.dr
  have nxd : x ≠ A.ld := ne_of hx hdr (by intro z; cases z)
  have nxt : x ≠ A.tp := ne_of hx hT.ob (insne (by simp))
  have nxc : x ≠ A.lc := ne_of hx hT.ch (by intro z; cases z)
  have tu : ∀ (H1 : Hp) (fs fs' : List (Str × V)), H1 x = some (.ins (He.ga K "Table") dx fs) → Tm K H1 (upd H1 x (.ins (He.ga K "Table") dx fs')) := fun H1 fs fs' e => Tm.upd (by rw [e]; trivial)
  refine ⟨_, rfl, _, rfl, x, _, dx, _, rfl, hx, Z.table.cl, Z.table.na 0, (by show 0 < 1000; decide), ?_⟩
  refine ⟨_, rfl, _, rfl, x, _, dx, _, rfl, upd_same, Z.table.cl, Z.table.na 1, (by show 1 < 1000; decide), ?_⟩
  have t2 := (tu _ _ (putF "game" (.ref g) []) hx).trans (tu _ _ (putF "tape" (.ref A.tp) (putF "game" (.ref g) [])) upd_same)
  refine ⟨_, rfl, _, _, _, _, rfl, rfl, t2 _ _ hg.1, at0 _ _, _, rfl, x, _, dx, _, rfl, upd_same, Z.table.cl, Z.table.na 2, (by show 2 < 1000; decide), ?_⟩
  refine ⟨_, rfl, x, _, dx, _, rfl, upd_same, Z.table.cl, Z.table.na 3, (by show 3 < 1000; decide), ?_⟩
  intro wa dw nwa ndw newd
  have nwx : x ≠ wa := fun e => by rw [← e, upd_same] at nwa; cases nwa
  have nwdx : x ≠ dw := fun e => by rw [← e, upd_same] at ndw; cases ndw
  refine ⟨_, rfl, x, _, dx, _, rfl, by rw [upd_ne nwx, upd_ne nwdx]; exact upd_same, Z.table.cl, Z.table.na 4, (by show 4 < 1000; decide), ?_⟩
  refine ⟨_, rfl, x, _, dx, _, rfl, upd_same, Z.table.cl, Z.table.na 5, (by show 5 < 1000; decide), ?_⟩
  have hwa0 : H wa = none := by rw [upd_ne nwx.symm, upd_ne nwx.symm, upd_ne nwx.symm, upd_ne nwx.symm] at nwa; exact nwa
  have hdw0 : H dw = none := by rw [upd_ne nwdx.symm, upd_ne nwdx.symm, upd_ne nwdx.symm, upd_ne nwdx.symm] at ndw; exact ndw
  refine ⟨_, rfl, x, _, dx, _, _, rfl, upd_same, Z.table.cl, Z.table.na 2, rfl, (by show 5 ≤ sizeLine; decide), fun t ht => ?_⟩
  refine ⟨t, _, rfl, .inr (.inl (.inl upd_same)), rfl, rfl, _, rfl, ?_⟩
  have nxt' : x ≠ t := fun e => by rw [← e, upd_same] at ht; cases ht
  have nwt : wa ≠ t := fun e => by rw [← e, upd_ne nwx.symm, upd_ne nwx.symm, upd_same] at ht; cases ht
  have ht0 : H t = none := by
    by_cases e : t = dw
    · rw [e]; exact hdw0
    · rw [upd_ne nxt'.symm, upd_ne nxt'.symm, upd_ne nwt.symm, upd_ne e, upd_ne nxt'.symm, upd_ne nxt'.symm, upd_ne nxt'.symm, upd_ne nxt'.symm] at ht
      exact ht
  generalize e6 : upd _ t _ = H6
  have b6 : But [x] H H6 := by
    rw [← e6]
    intro b o nb q
    have nb : b ≠ x := by simpa using nb
    rw [upd_ne (ne_of_none q ht0), upd_ne nb, upd_ne nb, upd_ne (ne_of_none q hwa0), upd_ne (ne_of_none q hdw0), upd_ne nb, upd_ne nb, upd_ne nb, upd_ne nb]; exact q
  have tm6 : Tm K H H6 := b6.tm (fun b hb => by rw [List.mem_singleton.mp hb, hx]; trivial)
  have hx6 : H6 x = some (.ins (He.ga K "Table") dx (fTable g A.tp gm.kind (.str "") wa)) := by
    rw [← e6, upd_ne nxt', upd_same]; rfl
  have hw6 : H6 wa = some (.ins (He.ga K "Silent") dw []) := by
    rw [← e6, upd_ne nwt, upd_ne nwx.symm, upd_ne nwx.symm, upd_same]
  have hT6 : TapeAt K A H6 cs [] := hT.but b6 tm6 (by simpa using nxt.symm) (by simpa using nxc.symm) (by simpa using nxd.symm)
  have hg6 := hg.tm tm6
  cases gm with
  | gen r blk n m rows =>
    rw [show inV (V.str (Gm.gen r blk n m rows).kind) _ = false from gk_inG]
    refine iteF ?_
    refine ⟨_, rfl, x, dx, _, rfl, hx6, rfl, x, dx, g, wa, A, cs, r, blk, n, m, rows, rfl, hx6, hg6, hT6, hok, fun H7 hb hT7 hx7 => ?_⟩
    have nwa7 : wa ∉ [x, A.ld] := by
      obtain ⟨t6, hd6, _⟩ := hT6.dr
      have := ne_of hw6 hd6 (by intro z; cases z)
      simp [nwx.symm, this]
    exact hQ ⟨A, x, x, x, wa, dw, A.ld⟩ H7 rfl ((b6.mono (by simp)).trans hb) hT7 (hb _ _ nwa7 hw6) (.inl rfl) hx7
  | fn r blk n l m tb =>
    rw [show inV (V.str (Gm.fn r blk n l m tb).kind) _ = true from gk_inF]
    refine iteT ?_
    refine ⟨_, rfl, x, dx, _, rfl, hx6, rfl, x, dx, g, wa, A, cs, r, blk, n, l, m, tb, rfl, hx6, hg6, hT6, hok, fun R H7 hRA hb hT7 hW hda hx7 => ?_⟩
    refine hQ R H7 hRA ((b6.mono (by simp)).trans hb) hT7 hW (hda.imp id fun e => ⟨by rw [e.1]; rfl, ?_⟩) ?_
    · cases q : H R.da with
      | none => rfl
      | some o =>
        by_cases z : R.da = x
        · have := e.2; rw [z, hx6] at this; cases this
        · have := b6 _ _ (by simpa using z) q; rw [e.2] at this; cases this
    rw [hx7, show V.str "" = vS [] from congrArg V.str sE]; rfl
end
end BB
set_option maxHeartbeats 4000000
namespace BB
open PySem PySem.Spec PyProof.Rows L2
theorem _root_.L2.Same.none {H H' : Hp} (s : Same H H') {a : Addr} (h : H' a = none) : H a = none := by
  cases q : H a with
  | none => rfl
  | some o => rw [s _ _ q] at h; cases h
theorem made2 {H : Hp} {x dx : Addr} {o o' : HO} (nx : H x = none) (ndx : H dx = none) (ne : dx ≠ x) : Same H (upd (upd H dx o) x o') := (Same.new ndx).trans (Same.new (by rw [upd_ne ne.symm]; exact nx))
abbrev fPlay (o : Nat) (said : Bs) (da la : Addr) : List (Str × V) := [("outcome", .int o), ("said", vS said), ("draws", .ref da), ("asked", .ref la)]
def b2n (b : Bool) : Nat := if b then 1 else 0
def sp_played (K : PySem.W.Frag) : Sp := fun vs H Q _ => ∃ (g c : Addr) (gm : Gm) (b : Brk) (v : V) (cs : List Nat) (p : Path) (said : Bs), vs = [.ref g, v, .ref c] ∧ GmAt K H g gm ∧ BrkAt K H b v ∧ b.good 9 ∧ b.depth ≤ 60 ∧ SqL K H c (cs.map fun c : Nat => V.int c) ∧ follow (gm.tr b) cs = some (p, said) ∧
  ∀ x dx da la ts H', Same H H' → H' x = some (.ins (He.ga K "Play") dx (fPlay (b2n (won said)) said da la)) → H' da = some (.lst ts) → PairsAt K H' ts p → p.length ≤ 1000 → Q (.ref x) H'
theorem Gm.ch_len {K : PySem.W.Frag} {H : Hp} {g : Gm} (h : g.bk K H) {c : Nat} (ok : g.ok c) : (g.ch c).length ≤ 8 := by
  cases g with
  | gen r b n m rows =>
    obtain ⟨_, g, _, hm⟩ := h
    cases r with
    | true =>
      show (rowAt rows (bitsOf n c)).length ≤ 8
      rw [g.at (bitsOf_length _ _)]; exact hm
    | false =>
      show (bitsOf m c).length ≤ 8
      rw [bitsOf_length]; exact hm
  | fn r b n l m tb => exact Nat.zero_le _
theorem Gm.wk_tlen (c : Nat) (g : Gm) : tlen (g.wk c) = 0 := by
  cases g with
  | gen r b n m rows => rfl
  | fn r b n l m tb => cases r <;> rfl
section
variable {P : Program} {w : World} {K : PySem.W.Frag} {mg : Str → Option Value} {base : Heap}
theorem ok_played (B : Bi mg) (G : Gi K mg) (D : Dfn K mg "played" s_played)  (Z : Zs K) (k_Tape : C8.Mak P w K mg base 1 "Tape" (He.ga K "Tape") (sp_Tape_init K) []) (k_Table : C8.Mak P w K mg base 7 "Table" (He.ga K "Table") (sp_Table_init K) []) (k_Notes : C8.Mak P w K mg base 1 "Notes" (He.ga K "Notes") (sp_Notes_init K) []) (c_run_breaker : C8.Cal P w K mg base 6 "run_breaker" (sp_run_plain K) []) (m_has_won : C8.Met P w K mg base 1 (He.ga K "Table") "has_won" (sp_has_won K) []) (k_Play : C8.Mak P w K mg base 1 "Play" (He.ga K "Play") (sp_Play_init K) []) : C8.Cal P w K mg base 9 "played" (sp_played K) [] := by
  refine D.cal sc_played (fun _ _ _ _ _ _ us hl => match us, hl with | [_, _, _], _ => rfl) (fun vs H Q E h => ?_) (fun f cdv A outer s H vs Q E hr h => ?_)
  · obtain ⟨g, c, gm, b, v, cs, p, said, rfl, _⟩ := h
    rfl
  obtain ⟨g, c, gm, b, v, cs, p, said, rfl, hg, hb, hgd, hdp, hc, hfo, hQ⟩ := h
  obtain ⟨hok, p', rfl, hfo'⟩ := Gm.start hg.2 hfo
  refine ⟨_, (pss_cons (ps_set (i := 3) sc_played.nd rfl (Or.inl rfl) (C8.pe_mk k_Tape hr (by decide) rfl (pa_cons (pv 2) pa_nil)))
    (pss_cons (ps_set (i := 4) sc_played.nd rfl (Or.inl rfl) (C8.pe_mk k_Table hr (by decide) rfl (pa_cons (pv 0) (pa_cons (pv 3) pa_nil))))
    (pss_cons (ps_set (i := 5) sc_played.nd rfl (Or.inl rfl) (C8.pe_mk k_Notes hr (by decide) rfl (pa_cons (pe_fld (pv 4) rfl) pa_nil)))
    (pss_cons (ps_set (i := 6) sc_played.nd rfl (Or.inl rfl) (C8.pe_c c_run_breaker hr (by omega) rfl (pa_cons (pv 1) (pa_cons (pv 3) (pa_cons (pe_fld (pv 4) rfl) (pa_cons (pv 5) pa_nil))))))
    (pss_cons (ps_set (i := 7) sc_played.nd rfl (Or.inl rfl) (pe_callTy call_int1 (by rfl) B.int (by decide +kernel) (pa_cons (C8.pe_mt m_has_won hr (by omega) (pv 4) (pa_cons (pv 6) (pa_cons (pe_fld (pv 5) rfl) pa_nil))) pa_nil)))
    (pss_one (ps_ret (C8.pe_mk k_Play hr (by decide) rfl (pa_cons (pv 7) (pa_cons (pv 6) (pa_cons (pe_fld (pv 3) rfl) (pa_cons (pe_fld (pv 5) rfl) pa_nil)))))))))))), ?_⟩
  refine ⟨_, rfl, fun x dx nx ndx nex => ?_⟩
  have s0 : Same H (upd (upd H dx (.own x)) x (.ins (He.ga K "Tape") dx [])) := made2 nx ndx nex
  refine ⟨x, dx, c, cs, rfl, upd_same, s0.seq hc, fun H1 A hA hlc hld hb1 hT1 => ⟨rfl, ?_⟩⟩
  subst hA
  have s1 : Same H H1 := hb1.same0 s0 (by simpa using nx)
  have hld0 : H A.ld = none := s0.none hld
  refine ⟨_, rfl, _, rfl, fun t dt nt ndt net => ?_⟩
  have s1' : Same H1 (upd (upd H1 dt (.own t)) t (.ins (He.ga K "Table") dt [])) := made2 nt ndt net
  refine ⟨t, dt, g, A, cs, gm, rfl, upd_same, hg.tm (s1.trans s1').tm, hT1.but (S := []) s1'.but s1'.tm (by simp) (by simp) (by simp), hok, fun R H2 hRA hb2 hT2 hW hda ht2 => ⟨rfl, ?_⟩⟩
  have ht0 : H t = none := s1.none nt
  have s2 : Same H H2 := hb2.same0 (s1.trans s1') (by simp [ht0, hld0])
  have hda0 : H R.da = none := by
    rcases hda with e | e
    · rw [e]; exact hld0
    · exact (s1.trans s1').none e.2
  refine ⟨_, rfl, t, _, dt, _, _, rfl, ht2, Z.table.cl, Z.table.na 4, rfl, fun nn dn nnn ndn nen => ?_⟩
  have s2' : Same H2 (upd (upd H2 dn (.own nn)) nn (.ins (He.ga K "Notes") dn [])) := made2 nnn ndn nen
  refine ⟨nn, dn, R.wa, rfl, upd_same, fun H3 la hb3 hla hla3 hn3 => ⟨rfl, ?_⟩⟩
  have s3 : Same H2 H3 := hb3.same0 s2' (by simpa using nnn)
  have hla0 : H2 la = none := s2'.none hla
  have hT3 : TapeAt K A H3 cs (gm.ds (cs.headD 0)) := hT2.but (S := []) s3.but s3.tm (by simp) (by simp) (by simp)
  have hW3 : WAt K ⟨A, nn, dn, la, R.wa, R.dw, R.da⟩ H3 (gm.wk (cs.headD 0)) := by
    have := hW.but (S := []) s3.but s3.tm (by simp) (by simp)
    cases hk : gm.wk (cs.headD 0) with
    | keyed blk n l m tb kb => rw [hk] at this; exact this
    | any l m told =>
      rw [hk] at this
      have e := this.1
      rw [hRA] at e
      exact ⟨e, this.2⟩
    | silent => rw [hk] at this; exact this
  have ht3 := s3 _ _ ht2
  obtain ⟨td, hdr, _⟩ := hT3.dr
  obtain ⟨fw, hfw, _⟩ := hW3.cls
  have hfw : H3 R.wa = _ := hfw
  have hdd : (R.da = A.ld) ∨ ∃ kvs, H3 R.da = some (.dK kvs) := by
    rcases hda with e | e
    · exact .inl e
    · right
      cases hk : gm.wk (cs.headD 0) with
      | keyed blk n l m tb kb => rw [hk] at e; exact absurd e.1.symm cAK
      | any l m told => rw [hk] at hW3; exact ⟨_, hW3.2.1⟩
      | silent => rw [hk] at e; exact absurd e.1.symm cAS
  have nla : ∀ {z : Addr} {o : HO}, H2 z = some o → la ≠ z := fun {z o} h e => by rw [e, h] at hla0; cases hla0
  have hR3 : RunAt K ⟨A, nn, dn, la, R.wa, R.dw, R.da⟩ H3 cs (gm.ds (cs.headD 0)) (gm.wk (cs.headD 0)) 0 := by
    refine ⟨hT3, hn3, ⟨[], hla3, Nat.zero_le _⟩, hW3, ?_, nla hT2.ch, ?_, hda.imp id (·.1)⟩
    · obtain ⟨t2, h2, _⟩ := hT2.dr
      exact nla h2
    · obtain ⟨t2, h2, _⟩ := hT2.dr
      rcases hdd with e | ⟨kvs, e⟩
      · show R.da ≠ la ∧ R.da ≠ nn ∧ R.da ≠ A.tp ∧ R.da ≠ A.lc ∧ R.da ≠ R.wa
        rw [e]
        exact ⟨(nla h2).symm, ne_of hdr hn3 (by intro z; cases z), ne_of hdr hT3.ob (by intro z; cases z), hT3.ne.symm, ne_of hdr hfw (by intro z; cases z)⟩
      · exact ⟨ne_of e hla3 (by intro z; cases z), ne_of e hn3 (by intro z; cases z), ne_of e hT3.ob (by intro z; cases z), ne_of e hT3.ch (by intro z; cases z), ne_of e hfw (by intro z; cases z)⟩
  have hdsl := Gm.ds_len (cs.headD 0) gm
  refine ⟨_, rfl, _, rfl, _, rfl, t, _, dt, _, _, rfl, ht3, Z.table.cl, Z.table.na 3, rfl, _, rfl, ⟨A, nn, dn, la, R.wa, R.dw, R.da⟩, cs, gm.ds (cs.headD 0), gm.wk (cs.headD 0), 0, b, v, gm.ch (cs.headD 0), p', said, rfl, hR3, hb.tm (s2.trans s3).tm, ⟨hgd, by have := Gm.ch_len hg.2 hok; omega, by omega, by omega, by rw [Gm.wk_tlen]; omega⟩, hfo', fun H4 wk' q' hb4 hR4 => ?_⟩
  have nt4 : ∀ {z : Addr} {C d : Addr} {fs : List (Str × V)}, H3 z = some (.ins C d fs) → z ∉ (la :: [A.ld, R.da]) := fun {z C d fs} h e => by
    rcases List.mem_cons.mp e with e | e
    · exact ne_of h hla3 (by intro z; cases z) e
    · rcases List.mem_cons.mp e with e | e
      · exact ne_of h hdr (by intro z; cases z) e
      · have e := List.mem_singleton.mp e
        rcases hdd with q | ⟨kvs, q⟩
        · exact ne_of h hdr (by intro z; cases z) (e.trans q)
        · exact ne_of h q (by intro z; cases z) e
  have ht4 := hb4 _ _ (nt4 ht3) ht3
  have s4 : Same H H4 := hb4.same0 (s2.trans s3) (by
    intro z hz
    rcases List.mem_cons.mp hz with e | e
    · rw [e]; exact s2.none hla0
    · rcases List.mem_cons.mp e with e | e
      · rw [e]; exact hld0
      · rw [List.mem_singleton.mp e]; exact hda0)
  refine ⟨_, rfl, t, dt, _, rfl, ht4, rfl, _, rfl, _, rfl, nn, _, dn, _, _, rfl, hR4.notes, Z.notes.cl, Z.notes.na 1, rfl, t, dt, g, A.tp, R.wa, gm, _, said, _, rfl, ht4, .inr ⟨_, rfl, ?_⟩⟩
  obtain ⟨t5, hd5, hp5⟩ := hR4.tape.dr
  refine ⟨_, rfl, _, rfl, _, rfl, A.tp, _, _, _, _, rfl, hR4.tape.ob, Z.tape.cl, Z.tape.na 1, rfl, _, rfl, nn, _, dn, _, _, rfl, hR4.notes, Z.notes.cl, Z.notes.na 1, rfl, fun y dy ny ndy ney => ?_⟩
  have s4' : Same H4 (upd (upd H4 dy (.own y)) y (.ins (He.ga K "Play") dy [])) := made2 ny ndy ney
  refine ⟨y, dy, A.ld, la, b2n (won said), said, ?_, upd_same, fun H5 hb5 hy5 => ⟨rfl, ?_⟩⟩
  · cases won said <;> rfl
  have s5 : Same H4 H5 := hb5.same0 s4' (by simpa using ny)
  exact hQ y dy A.ld la t5 H5 (s4.trans s5) hy5 (s5 _ _ hd5) (hp5.tm s5.tm) hR4.tape.sz
end
end BB
set_option maxHeartbeats 4000000
namespace BB
/-! ### fractions -/
theorem frac_num (n : Int) {d : Nat} (hd : 0 < d) : ((n : Rat) / (d : Rat)).num = n / ((Nat.gcd n.natAbs d : Nat) : Int) := by
  rw [← Rat.mkRat_eq_div, Rat.num_mkRat, if_neg (by omega), Nat.gcd_comm]
theorem frac_den (n : Int) {d : Nat} (hd : 0 < d) : ((n : Rat) / (d : Rat)).den = d / Nat.gcd n.natAbs d := by
  rw [← Rat.mkRat_eq_div, Rat.den_mkRat, if_neg (by omega), Nat.gcd_comm]
theorem den_ne (q : Rat) : (q.den : Rat) ≠ 0 := by
  intro e
  have : q.den = 0 := by exact_mod_cast e
  exact q.den_nz this
theorem frac_add (x y : Rat) : (((x.num * y.den + y.num * x.den : Int)) : Rat) / ((x.den * y.den : Nat) : Rat) = x + y := by
  have h1 := num_den x
  have h2 := num_den y
  have n1 := den_ne x
  have n2 := den_ne y
  have e1 : (((x.num * y.den + y.num * x.den : Int)) : Rat) = (x.num : Rat) * (y.den : Rat) + (y.num : Rat) * (x.den : Rat) := by push_cast; rfl
  have e2 : ((x.den * y.den : Nat) : Rat) = (x.den : Rat) * (y.den : Rat) := by push_cast; rfl
  rw [e1, e2, h1, h2]
  grind
theorem frac_sub (x y : Rat) : (((x.num * y.den - y.num * x.den : Int)) : Rat) / ((x.den * y.den : Nat) : Rat) = x - y := by
  have h1 := num_den x
  have h2 := num_den y
  have n1 := den_ne x
  have n2 := den_ne y
  have e1 : (((x.num * y.den - y.num * x.den : Int)) : Rat) = (x.num : Rat) * (y.den : Rat) - (y.num : Rat) * (x.den : Rat) := by push_cast; rfl
  have e2 : ((x.den * y.den : Nat) : Rat) = (x.den : Rat) * (y.den : Rat) := by push_cast; rfl
  rw [e1, e2, h1, h2]
  grind
/-! ### the next choices -/
theorem nextC_none : ∀ {p : Path}, (∀ q ∈ p, ¬ q.1 + 1 < q.2) → nextC p = none
  | [], _ => rfl
  | (c, n) :: r, h => by
    rw [nextC, nextC_none fun q hq => h q (List.mem_cons_of_mem _ hq)]
    exact if_neg (h (c, n) List.mem_cons_self)
theorem nextC_at : ∀ {p : Path} {i c n : Nat}, p[i]? = some (c, n) → c + 1 < n → (∀ q ∈ p.drop (i + 1), ¬ q.1 + 1 < q.2) → nextC p = some ((p.take i).map (·.1) ++ [c + 1])
  | [], i, c, n, h, _, _ => by simp at h
  | (c', n') :: r, 0, c, n, h, hc, hn => by
    simp at h
    obtain ⟨rfl, rfl⟩ := h
    rw [nextC, nextC_none (by simpa using hn)]
    exact if_pos hc
  | (c', n') :: r, i + 1, c, n, h, hc, hn => by
    rw [nextC, nextC_at (p := r) (i := i) (by simpa using h) hc (by simpa using hn)]
    rfl
/-! ### how often each way's weight is won -/
def bump (u : Nat) : List (Nat × Nat) → List (Nat × Nat)
  | [] => [(u, 1)]
  | (k, c) :: r => if k = u then (k, c + 1) :: r else (k, c) :: bump u r
def fq (q : Nat × Nat) : Rat := (q.2 : Rat) / (q.1 : Rat)
theorem bump_sum (u : Nat) : ∀ D : List (Nat × Nat), sumR (bump u D) fq = sumR D fq + 1 / (u : Rat)
  | [] => by
    rw [bump, sumR_cons, sumR_nil]
    unfold fq
    grind
  | (k, c) :: r => by
    rw [bump]
    split
    · rename_i h
      subst h
      rw [sumR_cons, sumR_cons]
      unfold fq
      push_cast
      grind
    · rw [sumR_cons, sumR_cons, bump_sum u r]
      grind
theorem bump_keys (u : Nat) : ∀ D : List (Nat × Nat), (bump u D).map (·.1) = if u ∈ D.map (·.1) then D.map (·.1) else D.map (·.1) ++ [u]
  | [] => by simp [bump]
  | (k, c) :: r => by
    have ih := bump_keys u r
    rw [bump]
    by_cases h : k = u
    · subst h; simp
    · rw [if_neg h, List.map_cons, ih]
      have : (u ∈ ((k, c) :: r).map (·.1)) ↔ u ∈ r.map (·.1) := by
        rw [List.map_cons, List.mem_cons]
        exact ⟨fun q => q.resolve_left (fun e => h e.symm), .inr⟩
      by_cases q : u ∈ r.map (·.1)
      · rw [if_pos q, if_pos (this.mpr q)]; rfl
      · rw [if_neg q, if_neg (fun z => q (this.mp z))]; rfl
theorem bump_nodup {u : Nat} {D : List (Nat × Nat)} (h : (D.map (·.1)).Nodup) : ((bump u D).map (·.1)).Nodup := by
  rw [bump_keys]
  split
  · exact h
  · rename_i q
    exact List.nodup_append.mpr ⟨h, by simp, fun a ha b hb e => by
      rw [List.mem_singleton.mp hb] at e
      exact q (e ▸ ha)⟩
theorem lookup_of {D : List (Nat × Nat)} (h : (D.map (·.1)).Nodup) {q : Nat × Nat} (hq : q ∈ D) : D.lookup q.1 = some q.2 := by
  induction D with
  | nil => cases hq
  | cons a r ih =>
    obtain ⟨k, c⟩ := a
    rw [List.map_cons, List.nodup_cons] at h
    rw [List.lookup_cons]
    rcases List.mem_cons.mp hq with e | e
    · subst e; simp
    · have : q.1 ≠ k := fun z => h.1 (by rw [← z]; exact List.mem_map.mpr ⟨q, e, rfl⟩)
      have : (q.1 == k) = false := by simpa using this
      rw [this]
      exact ih h.2 e
theorem bump_new {u : Nat} : ∀ {D : List (Nat × Nat)}, u ∉ D.map (·.1) → bump u D = D ++ [(u, 1)]
  | [], _ => rfl
  | (k, c) :: r, h => by
    rw [List.map_cons, List.mem_cons, not_or] at h
    rw [bump, if_neg (fun e => h.1 e.symm), bump_new h.2]; rfl
theorem bump_old {u c : Nat} : ∀ {D : List (Nat × Nat)}, (D.map (·.1)).Nodup → D.lookup u = some c → bump u D = D.map fun q => if q.1 = u then (q.1, c + 1) else q
  | [], _, h => by simp at h
  | (k, c') :: r, hn, h => by
    rw [List.map_cons, List.nodup_cons] at hn
    rw [List.lookup_cons] at h
    rw [bump, List.map_cons]
    by_cases e : k = u
    · subst e
      simp at h
      subst h
      rw [if_pos rfl, if_pos rfl]
      have key : ∀ q ∈ r, (if q.1 = k then (q.1, c' + 1) else q) = id q := fun q hq => if_neg fun z => hn.1 (by rw [← z]; exact List.mem_map.mpr ⟨q, hq, rfl⟩)
      rw [List.map_congr_left key, List.map_id]
    · have e2 : (u == k) = false := by simpa using fun z => e z.symm
      rw [e2] at h
      rw [if_neg e, if_neg e, bump_old hn.2 h]
def wonOf (L : List (Path × Bs)) : List (Nat × Nat) := L.foldl (fun D r => if won r.2 then bump (under r.1) D else D) []
theorem wonOf_snoc (L : List (Path × Bs)) (r : Path × Bs) : wonOf (L ++ [r]) = if won r.2 then bump (under r.1) (wonOf L) else wonOf L := by
  unfold wonOf
  rw [List.foldl_append]; rfl
theorem snocL_ind {α : Type} {P : List α → Prop} (h0 : P []) (h1 : ∀ l a, P l → P (l ++ [a])) (l : List α) : P l := by
  rw [← List.reverse_reverse l]
  induction l.reverse with
  | nil => exact h0
  | cons a r ih => rw [List.reverse_cons]; exact h1 _ _ ih
theorem wonOf_sum (L : List (Path × Bs)) : sumR (wonOf L) fq = sumR L wt := by
  refine snocL_ind (P := fun L => sumR (wonOf L) fq = sumR L wt) rfl (fun l r ih => ?_) L
  rw [wonOf_snoc, sumR_append, sumR_cons, sumR_nil, ← ih]
  unfold wt
  cases won r.2
  · simp [b2r]; grind
  · simp only [if_true, bump_sum, b2r]; grind
theorem wonOf_nodup (L : List (Path × Bs)) : ((wonOf L).map (·.1)).Nodup := by
  refine snocL_ind (P := fun L => ((wonOf L).map (·.1)).Nodup) (by simp [wonOf]) (fun l r ih => ?_) L
  rw [wonOf_snoc]
  split
  · exact bump_nodup ih
  · exact ih
theorem wonOf_keys (L : List (Path × Bs)) : ∀ k ∈ (wonOf L).map (·.1), ∃ r ∈ L, k = under r.1 := by
  refine snocL_ind (P := fun L => ∀ k ∈ (wonOf L).map (·.1), ∃ r ∈ L, k = under r.1) (by simp [wonOf]) (fun l r ih => ?_) L
  rw [wonOf_snoc]
  have up : ∀ k, (∃ r ∈ l, k = under r.1) → ∃ r' ∈ l ++ [r], k = under r'.1 := fun k ⟨r', h, e⟩ => ⟨r', List.mem_append_left _ h, e⟩
  intro k hk
  split at hk
  · rw [bump_keys] at hk
    split at hk
    · exact up k (ih k hk)
    · rcases List.mem_append.mp hk with h | h
      · exact up k (ih k h)
      · exact ⟨r, by simp, List.mem_singleton.mp h⟩
  · exact up k (ih k hk)
theorem sumR_perm {α : Type} {l k : List α} (f : α → Rat) (h : l.Perm k) : sumR l f = sumR k f := by
  induction h with
  | nil => rfl
  | cons x _ ih => rw [sumR_cons, sumR_cons, ih]
  | swap x y l => rw [sumR_cons, sumR_cons, sumR_cons, sumR_cons]; grind
  | trans _ _ a b => exact a.trans b
theorem keys_sum {D : List (Nat × Nat)} (h : (D.map (·.1)).Nodup) : sumR (D.map (·.1)) (fun k => fq (k, (D.lookup k).getD 0)) = sumR D fq := by
  rw [sumR_map]
  exact sumR_congr fun q hq => by rw [lookup_of h hq]; rfl
theorem div2048 : ∀ k < 2049, k ∣ 2048 → k ∈ [1, 2, 4, 8, 16, 32, 64, 128, 256, 512, 1024, 2048] := by decide +kernel
theorem div27 : ∀ k < 28, k ∣ 27 → k ∈ [1, 3, 9, 27] := by decide +kernel
def divs : List Nat := [1, 2, 4, 8, 16, 32, 64, 128, 256, 512, 1024, 2048].flatMap fun a => [1, 3, 9, 27].map fun b => a * b
theorem mem_divs {k : Nat} (h : k ∣ 55296) : k ∈ divs := by
  rw [show 55296 = 2048 * 27 from rfl, Nat.dvd_mul] at h
  obtain ⟨a, b, ha, hb, rfl⟩ := h
  have h1 := div2048 a (Nat.lt_succ_of_le (Nat.le_of_dvd (by decide) ha)) ha
  have h2 := div27 b (Nat.lt_succ_of_le (Nat.le_of_dvd (by decide) hb)) hb
  exact List.mem_flatMap.mpr ⟨a, h1, List.mem_map.mpr ⟨b, h2, rfl⟩⟩
theorem divs_few {l : List Nat} (hn : l.Nodup) (h : ∀ k ∈ l, k ∣ 55296) : l.length < 64 :=
  Nat.lt_of_le_of_lt (List.Nodup.length_le_of_subset hn fun k hk => mem_divs (h k hk)) (by decide +kernel)
end BB
set_option maxHeartbeats 4000000
namespace BB
open PySem PySem.Spec PyProof.Rows L2
/-! ### fractions -/
def FrAt (K : PySem.W.Frag) (H : Hp) (a : Addr) (q : Rat) : Prop := SqT K H a [.int q.num, .int (q.den : Nat)]
theorem FrAt.tm {K : PySem.W.Frag} {H H' : Hp} {a : Addr} {q : Rat} (t : Tm K H H') (h : FrAt K H a q) : FrAt K H' a q := t _ _ h
theorem sc_fraction : FnScope ["numerator", "denominator", "divisor"] ["numerator", "denominator"] (defScope s_fraction) := ⟨rfl, rfl, rfl, by decide +kernel, rfl, by decide +kernel, by decide +kernel⟩
theorem sc_add : FnScope ["first", "second"] ["first", "second"] (defScope s_add) := ⟨rfl, rfl, rfl, by decide +kernel, rfl, by decide +kernel, by decide +kernel⟩
theorem sc_less : FnScope ["first", "second"] ["first", "second"] (defScope s_less) := ⟨rfl, rfl, rfl, by decide +kernel, rfl, by decide +kernel, by decide +kernel⟩
theorem sc_next_choices : FnScope ["draws", "at", "choice", "many", "one", "_"] ["draws"] (defScope s_next_choices) := ⟨rfl, rfl, rfl, by decide +kernel, rfl, by decide +kernel, by decide +kernel⟩
def sp_fraction (K : PySem.W.Frag) : Sp := fun vs H Q _ => ∃ (n : Int) (d : Nat), vs = [.int n, .int d] ∧ 0 < d ∧ d < 2 ^ 100 ∧ ∀ p H', Same H H' → FrAt K H' p ((n : Rat) / (d : Rat)) → Q (.ref p) H'
def sp_add (K : PySem.W.Frag) : Sp := fun vs H Q _ => ∃ (a b : Addr) (x y : Rat), vs = [.ref a, .ref b] ∧ FrAt K H a x ∧ FrAt K H b y ∧ x.den < 2 ^ 40 ∧ y.den < 2 ^ 40 ∧ ∀ p H', Same H H' → FrAt K H' p (x + y) → Q (.ref p) H'
def sp_less (K : PySem.W.Frag) : Sp := fun vs H Q _ => ∃ (a b : Addr) (x y : Rat), vs = [.ref a, .ref b] ∧ FrAt K H a x ∧ FrAt K H b y ∧ x.den < 2 ^ 40 ∧ y.den < 2 ^ 40 ∧ ∀ p H', Same H H' → FrAt K H' p (x - y) → Q (.ref p) H'
def ChAt (K : PySem.W.Frag) (H : Hp) : Option (List Nat) → V → Prop
  | none, v => v = .non
  | some cs, v => ∃ c, v = .ref c ∧ SqL K H c (cs.map fun c : Nat => V.int c)
def sp_next_choices (K : PySem.W.Frag) : Sp := fun vs H Q _ => ∃ (l : Addr) (ts : List V) (p : Path), vs = [.ref l] ∧ H l = some (.lst ts) ∧ PairsAt K H ts p ∧ p.length ≤ 100000 ∧ ∀ v H', Same H H' → ChAt K H' (nextC p) v → Q v H'
/-- what is walked from behind -/
theorem wn_itc {H : Hp} {lo c : Int} {n : Nat} : WkN (Itc lo c n) H n (fun i => .int (lo + (i : Nat) * c)) where
  go := fun i H' hi s => hi
  yld := fun i H' x H'' hi s y => y
  stop := fun H' s => Nat.le_refl n
/-- [elt for any target in ..] -/
theorem lcG (K : PySem.W.Frag) {J : It} {H1 : Hp} {n : Nat} {item : Nat → V} {ks : List Nat} {g : TG} {te : TE} {σ : L2.St} {D : Addr} {Qd : Hp → Prop} (W : WkN J H1 n item) (hD : H1 D = none) (hn : n ≤ 1000000) (f : Nat → V)
    (hs : ∀ i H, i < n → Same H1 H → ∀ (C : VK) (N : Hp → Prop), (∀ H', Same H H' → C (f i) H') → g (item i) (wipe σ ks) H fun σ2 H2 => wipe σ2 ks = wipe σ ks ∧ tYes σ2 H2 fun b H3 => if b = true then te σ2 H3 C else N H3)
    (hd : ∀ H, Same H1 H → H D = some (.lst ((List.range n).map f)) → Qd H) :
    ∃ W : Nat → Nat → Hp → Prop, (∃ m, W 0 m (upd H1 D (.lst []))) ∧ ∀ i m H, W i m H →
      (J.stop i H ∧ Qd H) ∨ (J.go i H ∧ ∃ Nx : Hp → Prop, (∀ H', Nx H' → ∃ m', m' < m ∧ W (i + 1) m' H') ∧ ∀ x H', J.yld i H x H' → g x (wipe σ ks) H' fun σ2 H2 => wipe σ2 ks = wipe σ ks ∧ tYes σ2 H2 fun b H3 =>
        if b = true then te σ2 H3 fun y H4 => ∃ acc, H4 D = some (.lst acc) ∧ acc.length < sizeLine ∧ Nx (upd H4 D (.lst (acc ++ [y]))) else Nx H3) := by
  refine ⟨fun i m H => m = n - i ∧ i ≤ n ∧ Same H1 H ∧ H D = some (.lst ((List.range i).map f)), ⟨n, by simp, Nat.zero_le _, Same.new hD, upd_same⟩, ?_⟩
  rintro i m H ⟨rfl, hi, s, hL⟩
  by_cases hlt : i < n
  · refine .inr ⟨W.go i H hlt s, fun H' => i + 1 ≤ n ∧ Same H1 H' ∧ H' D = some (.lst ((List.range (i + 1)).map f)), fun H' q => ⟨n - (i + 1), by omega, rfl, q⟩, fun x H' y => ?_⟩
    obtain ⟨e, hx⟩ := W.yld i H x H' hlt s y
    subst e hx
    refine hs i H' hlt s _ _ fun H2 s' => ?_
    refine ⟨_, s' _ _ hL, szlt (by simp; omega), by omega, L2.Same.mut (s.trans s') hD, ?_⟩
    rw [upd_same, List.range_succ, List.map_append]; rfl
  · have e : i = n := by omega
    subst e
    exact .inl ⟨W.stop H s, hd H s hL⟩
theorem nextC_take {p : Path} {n : Nat} (h : p.length = n) {i : Nat} {c m : Nat} (hi : p[n - 1 - i]? = some (c, m)) (hin : i < n) (hc : c + 1 < m) (hn : ∀ q ∈ p.drop (n - i), ¬ q.1 + 1 < q.2) : nextC p = some ((p.take (n - 1 - i)).map (·.1) ++ [c + 1]) :=
  nextC_at hi hc (by rw [show n - 1 - i + 1 = n - i by omega]; exact hn)
section
variable {P : Program} {w : World} {K : PySem.W.Frag} {mg : Str → Option Value} {base : Heap}
theorem ok_fraction (B : Bi mg) (G : Gi K mg) (D : Dfn K mg "fraction" s_fraction)  : C8.Cal P w K mg base 1 "fraction" (sp_fraction K) [] := by
  refine D.cal sc_fraction (fun _ _ _ _ _ _ us hl => match us, hl with | [_, _], _ => rfl) (fun vs H Q E h => ?_) (fun f cdv A outer s H vs Q E hr h => ?_)
  · obtain ⟨n, d, rfl, _⟩ := h
    rfl
  obtain ⟨n, d, rfl, hd, hd2, hQ⟩ := h
  refine ⟨_, (pss_cons (ps_set (i := 2) sc_fraction.nd rfl (Or.inl rfl) (pe_callBfun cr_gcd rfl G.g_gcd (pa_cons (pv 0) (pa_cons (pv 1) pa_nil))))
    (pss_cons (ps_if (pt_cmpR op_lt (pv 1) pe_int (nomark _)) (pss_one ps_never) pss_nil)
    (pss_one (ps_ret (pe_tup (pa_cons (pe_op op_fdivW (pv 0) (pv 2)) (pa_cons (pe_op op_fdivW (pv 1) (pv 2)) pa_nil))))))), ?_⟩
  have g0 : 0 < Nat.gcd n.natAbs d := Nat.gcd_pos_of_pos_right _ hd
  have g1 : Nat.gcd n.natAbs d < 2 ^ 100 := Nat.lt_of_le_of_lt (Nat.le_of_dvd hd (Nat.gcd_dvd_right _ _)) hd2
  refine ⟨_, rfl, _, rfl, n, d, rfl, ?_⟩
  rw [show ((d : Int)).natAbs = d from rfl]
  have cw : ∀ i : Int, CDivW i ((Nat.gcd n.natAbs d : Nat) : Int) := fun i => wide_div (b := 100) (by omega) (by rw [Int.natAbs_natCast]; exact g1) (by decide) (by decide)
  refine ⟨_, rfl, _, _, rfl, rfl, _, rfl, ?_⟩
  rw [decide_eq_false (by omega)]
  refine iteF ?_
  refine ⟨_, rfl, _, rfl, _, _, rfl, rfl, cw _, _, rfl, _, rfl, _, _, rfl, rfl, cw _, (by show 2 ≤ sizeLine; decide), fun t ht => ?_⟩
  refine hQ t _ (Same.new ht) ?_
  unfold FrAt
  rw [frac_num n hd, frac_den n hd, Int.natCast_ediv]
  exact .inl (.inl upd_same)
theorem ok_add (B : Bi mg) (G : Gi K mg) (D : Dfn K mg "add" s_add)  (c_fraction : C8.Cal P w K mg base 1 "fraction" (sp_fraction K) []) : C8.Cal P w K mg base 2 "add" (sp_add K) [] := by
  refine D.cal sc_add (fun _ _ _ _ _ _ us hl => match us, hl with | [_, _], _ => rfl) (fun vs H Q E h => ?_) (fun f cdv A outer s H vs Q E hr h => ?_)
  · obtain ⟨a, b, x, y, rfl, _⟩ := h
    rfl
  obtain ⟨a, b, x, y, rfl, hx, hy, dx, dy, hQ⟩ := h
  refine ⟨_, (pss_one (ps_ret (C8.pe_c c_fraction hr (by omega) rfl (pa_cons (pe_op op_add (pe_op op_mul (pe_ix ix_tup (pv 0) pe_int (fun _ _ => rfl)) (pe_ix ix_tup (pv 1) pe_int (fun _ _ => rfl))) (pe_op op_mul (pe_ix ix_tup (pv 1) pe_int (fun _ _ => rfl)) (pe_ix ix_tup (pv 0) pe_int (fun _ _ => rfl)))) (pa_cons (pe_op op_mul (pe_ix ix_tup (pv 0) pe_int (fun _ _ => rfl)) (pe_ix ix_tup (pv 1) pe_int (fun _ _ => rfl))) pa_nil))))), ?_⟩
  refine ⟨_, rfl, _, _, _, _, rfl, rfl, hx, at0 _ _, _, rfl, _, _, _, _, rfl, rfl, hy, at1 _ _ _, _, _, rfl, rfl, .inr ⟨by omega, by omega⟩, _, rfl, _, _, _, _, rfl, rfl, hy, at0 _ _, _, rfl, _, _, _, _, rfl, rfl, hx, at1 _ _ _, _, _, rfl, rfl, .inr ⟨by omega, by omega⟩, _, _, rfl, rfl, _, rfl, _, _, _, _, rfl, rfl, hx, at1 _ _ _, _, rfl, _, _, _, _, rfl, rfl, hy, at1 _ _ _, _, _, rfl, rfl, .inr ⟨by omega, by omega⟩, _, x.den * y.den, ?_, Nat.mul_pos x.den_pos y.den_pos, ?_, fun p H' s' hp => hQ p H' s' (by rw [frac_add] at hp; exact hp)⟩
  · rw [Int.natCast_mul]; rfl
  · exact Nat.lt_of_lt_of_le (Nat.mul_lt_mul'' dx dy) (by decide)
theorem ok_less (B : Bi mg) (G : Gi K mg) (D : Dfn K mg "less" s_less)  (c_fraction : C8.Cal P w K mg base 1 "fraction" (sp_fraction K) []) : C8.Cal P w K mg base 2 "less" (sp_less K) [] := by
  refine D.cal sc_less (fun _ _ _ _ _ _ us hl => match us, hl with | [_, _], _ => rfl) (fun vs H Q E h => ?_) (fun f cdv A outer s H vs Q E hr h => ?_)
  · obtain ⟨a, b, x, y, rfl, _⟩ := h
    rfl
  obtain ⟨a, b, x, y, rfl, hx, hy, dx, dy, hQ⟩ := h
  refine ⟨_, (pss_one (ps_ret (C8.pe_c c_fraction hr (by omega) rfl (pa_cons (pe_op op_sub (pe_op op_mul (pe_ix ix_tup (pv 0) pe_int (fun _ _ => rfl)) (pe_ix ix_tup (pv 1) pe_int (fun _ _ => rfl))) (pe_op op_mul (pe_ix ix_tup (pv 1) pe_int (fun _ _ => rfl)) (pe_ix ix_tup (pv 0) pe_int (fun _ _ => rfl)))) (pa_cons (pe_op op_mul (pe_ix ix_tup (pv 0) pe_int (fun _ _ => rfl)) (pe_ix ix_tup (pv 1) pe_int (fun _ _ => rfl))) pa_nil))))), ?_⟩
  refine ⟨_, rfl, _, _, _, _, rfl, rfl, hx, at0 _ _, _, rfl, _, _, _, _, rfl, rfl, hy, at1 _ _ _, _, _, rfl, rfl, .inr ⟨by omega, by omega⟩, _, rfl, _, _, _, _, rfl, rfl, hy, at0 _ _, _, rfl, _, _, _, _, rfl, rfl, hx, at1 _ _ _, _, _, rfl, rfl, .inr ⟨by omega, by omega⟩, _, _, rfl, rfl, _, rfl, _, _, _, _, rfl, rfl, hx, at1 _ _ _, _, rfl, _, _, _, _, rfl, rfl, hy, at1 _ _ _, _, _, rfl, rfl, .inr ⟨by omega, by omega⟩, _, x.den * y.den, ?_, Nat.mul_pos x.den_pos y.den_pos, ?_, fun p H' s' hp => hQ p H' s' (by rw [frac_sub] at hp; exact hp)⟩
  · rw [Int.natCast_mul]; rfl
  · exact Nat.lt_of_lt_of_le (Nat.mul_lt_mul'' dx dy) (by decide)
theorem ok_next_choices (B : Bi mg) (G : Gi K mg) (D : Dfn K mg "next_choices" s_next_choices)  : C8.Cal P w K mg base 1 "next_choices" (sp_next_choices K) [] := by
  refine D.cal sc_next_choices (fun _ _ _ _ _ _ us hl => match us, hl with | [_], _ => rfl) (fun vs H Q E h => ?_) (fun f cdv A outer s H vs Q E hr h => ?_)
  · obtain ⟨l, ts, p, rfl, _⟩ := h
    rfl
  obtain ⟨l, ts, p, rfl, hL, hp, hsz, hQ⟩ := h
  refine ⟨_, (pss_cons (ps_for PassesOwn.never rfl (pi_revR rfl B.reversed (prg_1 rfl B.range (pe_callB call_len_seq (by rfl) B.len PySem.boot_len (pa_cons (pv 0) pa_nil)))) (pg_name (i := 1) sc_next_choices.nd rfl (Or.inl rfl)) (pss_cons (ps_asg (pe_ix ix_list (pv 0) (pv 1) (fun _ _ => rfl)) (pg_tup rfl (pgs_cons (pg_name (i := 2) sc_next_choices.nd rfl (Or.inl rfl)) (pgs_cons (pg_name (i := 3) sc_next_choices.nd rfl (Or.inl rfl)) pgs_nil))))
      (pss_one (ps_if (pt_cmpR op_lt (pe_op op_add (pv 2) pe_int) (pv 3) (nomark _)) (pss_one (ps_ret (pe_op op_cat (pe_lc (own := [("one", 4), ("_", 5)]) (g := (gTup K 2 (gCons (gName 4) (gCons (gName 5) gNil)))) (tt := tYes) rfl sc_next_choices.nd (pi_list (pe_slice sl_list (pv 0) po_none (po_some (pv 1)))) (blkOk_by (own := [("one", 4), ("_", 5)]) (N := ["draws", "at", "choice", "many", "one", "_"]) (sc := defScope s_next_choices) (by decide +kernel)) (fun _ _ _ _ _ => (pg_tup rfl (pgs_cons (pg_name (i := 4) sc_next_choices.nd rfl (Or.inl rfl)) (pgs_cons (pg_name (i := 5) sc_next_choices.nd rfl (Or.inl rfl)) pgs_nil)))) (fun _ _ _ _ _ => pts_nil) (fun _ _ _ _ _ => (pv 4))) (pe_lst (pa_cons (pe_op op_add (pv 2) pe_int) pa_nil))))) pss_nil))))
    (pss_one (ps_ret pe_non))), ?_⟩
  have hlen := hp.1
  refine ⟨_, rfl, l, _, rfl, .inl (.inl (.inl hL)), _, rfl, by decide, by decide, by omega, by omega, ?_⟩
  rw [show ((ts.length : Int) - 0).toNat = ts.length by omega]
  refine forW wn_itc (fun i σ H' => ∃ u1 u2 u3 : Option V, σ = [some (.ref l), u1, u2, u3, none, none] ∧ H' = H ∧ ∀ q ∈ p.drop (ts.length - i), ¬ q.1 + 1 < q.2) ⟨none, none, none, rfl, rfl, by rw [hlen, Nat.sub_zero, List.drop_length]; intro q hq; cases hq⟩ (fun i σ H' ⟨_, _, _, _, e, _⟩ => by rw [e]; exact Same.refl _) ?_ ?_
  · rintro i σ H' hi ⟨u1, u2, u3, rfl, rfl, hno⟩
    have hj : ts.length - 1 - i < ts.length := by omega
    have hjp : ts.length - 1 - i < p.length := by omega
    obtain ⟨t, ht, hS⟩ := hp.2 _ _ _ (List.getElem?_eq_getElem hj) (List.getElem?_eq_getElem hjp)
    have ea : ((0 : Int) + (ts.length : Int) - 1 + (i : Int) * -1) = ((ts.length - 1 - i : Nat) : Int) := by omega
    rw [ea]
    refine ⟨_, rfl, _, rfl, l, ts, _, _, rfl, rfl, .inl (.inl hL), atI_nat (List.getElem?_eq_getElem hj), ?_⟩
    rw [ht]
    refine ⟨t, _, rfl, hS, rfl, _, _, rfl, _, _, rfl, rfl, ?_⟩
    refine ⟨_, rfl, _, _, rfl, rfl, _, rfl, _, _, rfl, rfl, _, rfl, ?_⟩
    refine ite2 (fun c => ?_) (fun c => ?_)
    · have c := of_decide_eq_true c
      have hn := nextC_take (p := p) hlen.symm (i := i) (c := (p[ts.length - 1 - i]).1) (m := (p[ts.length - 1 - i]).2) (List.getElem?_eq_getElem hjp) hi (by omega) hno
      have hcut : cutV ts none (some ((ts.length - 1 - i : Nat) : Int)) = ts.take (ts.length - 1 - i) := by
        unfold cutV
        rw [show HT.sIx ts.length 0 none = 0 from rfl, HT.sIx_nat, Nat.min_eq_left (by omega), List.drop_zero, Nat.sub_zero]
      refine ⟨_, rfl, _, rfl, _, rfl, l, ts, rfl, .inl (.inl hL), fun d hd => ?_⟩
      rw [hcut]
      have s1 : Same H' (upd H' d (.lst (ts.take (ts.length - 1 - i)))) := Same.new hd
      refine ⟨d, rfl, ⟨_, .inl (.inl upd_same)⟩, fun D hD => lcG K (wn_list (.inl (.inl upd_same))) hD (by rw [List.length_take]; omega) (fun k => .int ((p.getD k (0, 0)).1 : Nat)) ?_ ?_⟩
      · intro k H2 hk s2 C N hC
        rw [List.length_take] at hk
        have hk1 : k < ts.length := by omega
        have hk2 : k < p.length := by omega
        obtain ⟨t2, ht2, hS2⟩ := hp.2 _ _ _ (List.getElem?_eq_getElem hk1) (List.getElem?_eq_getElem hk2)
        rw [List.getD_eq_getElem?_getD, List.getElem?_take_of_lt (by omega), List.getElem?_eq_getElem hk1, Option.getD_some, ht2]
        refine ⟨t2, _, rfl, (s1.trans s2).tup hS2, rfl, _, _, rfl, _, _, rfl, rfl, rfl, ?_⟩
        unfold tYes
        dsimp only
        rw [if_pos rfl]
        refine ⟨_, rfl, ?_⟩
        have := hC H2 (Same.refl _)
        rw [List.getD_eq_getElem?_getD, List.getElem?_eq_getElem hk2, Option.getD_some] at this
        exact this
      · intro H2 s2 hD2
        refine ⟨_, rfl, _, _, rfl, rfl, (by show 1 ≤ sizeLine; decide), fun e he => ?_⟩
        have nDe : D ≠ e := ne_of_none hD2 he
        refine ⟨D, e, _, _, rfl, rfl, by rw [upd_ne nDe]; exact hD2, upd_same, szl (by simp; omega), fun q hq => ?_⟩
        refine hQ (.ref q) _ (((s1.trans s2).trans (Same.new he)).trans (Same.new hq)) ?_
        rw [hn]
        refine ⟨q, rfl, .inl (.inl ?_)⟩
        rw [upd_same, List.map_append, List.map_map]
        congr 3
        apply List.ext_getElem?
        intro k
        by_cases hk : k < ts.length - 1 - i
        · rw [List.getElem?_map, List.getElem?_range (by rw [List.length_take]; omega), List.getElem?_map, List.getElem?_take_of_lt hk, List.getElem?_eq_getElem (by omega : k < p.length)]
          show some (V.int ((p.getD k (0, 0)).1 : Nat)) = some (V.int ((p[k]'(by omega)).1 : Nat))
          rw [List.getD_eq_getElem?_getD, List.getElem?_eq_getElem (by omega : k < p.length)]; rfl
        · rw [List.getElem?_eq_none (by simp; omega), List.getElem?_eq_none (by simp; omega)]
    · have c := of_decide_eq_false (Bool.eq_false_iff.mpr c)
      refine ⟨_, _, _, rfl, rfl, fun q hq => ?_⟩
      rw [show ts.length - (i + 1) = ts.length - 1 - i by omega, List.drop_eq_getElem_cons hjp, show ts.length - 1 - i + 1 = ts.length - i by omega] at hq
      rcases List.mem_cons.mp hq with e | e
      · rw [e]; omega
      · exact hno q e
  · rintro σ H' ⟨u1, u2, u3, rfl, rfl, hno⟩
    rw [Nat.sub_self, List.drop_zero] at hno
    exact hQ .non _ (Same.refl _) (by rw [nextC_none hno]; rfl)
end
end BB
set_option maxHeartbeats 4000000
namespace BB
open PySem PySem.Spec PyProof.Rows L2
def wonV (D : List (Nat × Nat)) : List (Key × V) := D.map fun q => (Sum.inl (q.1 : Int), V.int (q.2 : Nat))
theorem valV_won {u : Nat} : ∀ D : List (Nat × Nat), valV (wonV D) (Sum.inl (u : Int) : Key) = (D.lookup u).map fun c => V.int (c : Nat)
  | [] => rfl
  | (k, c) :: r => by
    have ih := valV_won (u := u) r
    rw [List.lookup_cons]
    by_cases e : u = k
    · subst e
      simp [wonV, valV]
    · have e1 : (u == k) = false := by simpa using e
      rw [e1]
      show valV ((Sum.inl (k : Int), V.int (c : Nat)) :: wonV r) _ = _
      rw [valV_neg (by intro z; exact e (by have := Sum.inl.inj z; omega)), ih]
theorem lookup_not {u : Nat} : ∀ {D : List (Nat × Nat)}, u ∉ D.map (·.1) → D.lookup u = none
  | [], _ => rfl
  | (k, c) :: r, h => by
    rw [List.map_cons, List.mem_cons, not_or] at h
    rw [List.lookup_cons, show (u == k) = false by simpa using h.1]
    exact lookup_not h.2
theorem putK_won {D : List (Nat × Nat)} (hn : (D.map (·.1)).Nodup) (u : Nat) : putK (wonV D) (Sum.inl (u : Int) : Key) (.int (((D.lookup u).getD 0 : Nat) + 1)) = wonV (bump u D) := by
  by_cases h : u ∈ D.map (·.1)
  · obtain ⟨q, hq, rfl⟩ := List.mem_map.mp h
    have hl := lookup_of hn hq
    rw [bump_old hn hl, hl]
    unfold putK
    rw [if_pos (by rw [valV_any, valV_won, hl]; rfl)]
    unfold wonV
    rw [List.map_map, List.map_map]
    refine List.map_congr_left fun a ha => ?_
    by_cases e : a.1 = q.1
    · simp [e]
    · have e2 : ¬ ((a.1 : Int)) = (q.1 : Int) := by omega
      simp [e, e2]
  · rw [bump_new h, putK_new _ (by rw [valV_won, lookup_not h]; rfl), lookup_not h]
    simp [wonV]
abbrev fWays (cnt : Nat) (wd : Addr) : List (Str × V) := [("most", .int 300000), ("many", .int (cnt : Nat)), ("won", .ref wd)]
structure WaysAt (K : PySem.W.Frag) (H : Hp) (x dx wd : Addr) (D : List (Nat × Nat)) (cnt : Nat) : Prop where
  ob : H x = some (.ins (He.ga K "Ways") dx (fWays cnt wd))
  dc : H wd = some (.dK (wonV D))
theorem under_snoc (p : Path) (q : Nat × Nat) : under (p ++ [q]) = under p * q.2 := by unfold under; rw [List.foldl_append]; rfl
theorem sc_Ways_init : FnScope ["self", "game", "breaker", "most", "choices", "play"] ["self", "game", "breaker", "most"] (defScope s_Ways_init) := ⟨rfl, rfl, rfl, by decide +kernel, rfl, by decide +kernel, by decide +kernel⟩
theorem sc_Ways_count : FnScope ["self", "play", "under", "_", "many"] ["self", "play"] (defScope s_Ways_count) := ⟨rfl, rfl, rfl, by decide +kernel, rfl, by decide +kernel, by decide +kernel⟩
theorem sc_Ways_chance : FnScope ["self", "total", "under"] ["self"] (defScope s_Ways_chance) := ⟨rfl, rfl, rfl, by decide +kernel, rfl, by decide +kernel, by decide +kernel⟩
theorem sc_advantage : FnScope ["block", "breaker", "most", "real"] ["block", "breaker", "most"] (defScope s_advantage) := ⟨rfl, rfl, rfl, by decide +kernel, rfl, by decide +kernel, by decide +kernel⟩
def sp_count (K : PySem.W.Frag) : Sp := fun vs H Q _ => ∃ (x dx wd pl dp da la : Addr) (D : List (Nat × Nat)) (cnt : Nat) (b : Bool) (said : Bs) (ts : List V) (p : Path), vs = [.ref x, .ref pl] ∧ WaysAt K H x dx wd D cnt ∧ H pl = some (.ins (He.ga K "Play") dp (fPlay (b2n b) said da la)) ∧ H da = some (.lst ts) ∧ PairsAt K H ts p ∧
  under p ∣ 55296 ∧ cnt < 300000 ∧ (D.map (·.1)).Nodup ∧ D.length ≤ 1000 ∧ ∀ H', But [x, wd] H H' → WaysAt K H' x dx wd (if b then bump (under p) D else D) (cnt + 1) → Q .non H'
def sp_Ways_init (K : PySem.W.Frag) : Sp := fun vs H Q _ => ∃ (x dx g : Addr) (gm : Gm) (b : Brk) (v : V), vs = [.ref x, .ref g, v, .int 300000] ∧ H x = some (.ins (He.ga K "Ways") dx []) ∧ GmAt K H g gm ∧ BrkAt K H b v ∧ b.good 9 ∧ b.depth ≤ 60 ∧ TrS (gm.tr b) ∧
  ∀ wd H', But [x] H H' → WaysAt K H' x dx wd (wonOf (leaves (gm.tr b))) (leaves (gm.tr b)).length → Q .non H'
def sp_chance (K : PySem.W.Frag) : Sp := fun vs H Q _ => ∃ (x dx wd : Addr) (t : Tr) (cnt : Nat), vs = [.ref x] ∧ WaysAt K H x dx wd (wonOf (leaves t)) cnt ∧ TrS t ∧ ∀ a H', Same H H' → FrAt K H' a t.p → Q (.ref a) H'
section
variable {P : Program} {w : World} {K : PySem.W.Frag} {mg : Str → Option Value} {base : Heap}
theorem ok_Ways_count (B : Bi mg) (G : Gi K mg) (Z : Zs K) (D : Mdf K (He.ga K "Ways") "count" "Ways.count" s_Ways_count)  : C8.Met P w K mg base 1 (He.ga K "Ways") "count" (sp_count K) [] := by
  refine D.met sc_Ways_count (fun _ _ _ _ _ _ us hl => match us, hl with | [_, _], _ => rfl) (fun vs H Q E h => ?_) (fun f cdv A outer s H vs Q E hr h => ?_)
  · obtain ⟨x, dx, wd, pl, dp, da, la, D, cnt, b, said, ts, p, rfl, _⟩ := h
    rfl
  obtain ⟨x, dx, wd, pl, dp, da, la, D, cnt, b, said, ts, p, rfl, hW, hpl, hda, hp, hu, hcnt, hnd, hDl, hQ⟩ := h
  refine ⟨_, (pss_cons (ps_fldaug (pv 0) pe_int in_add)
    (pss_cons (ps_set (i := 2) sc_Ways_count.nd rfl (Or.inl rfl) pe_int)
    (pss_cons (ps_for PassesOwn.never rfl (pi_list (pe_fld (pv 1) rfl)) (pg_tup rfl (pgs_cons (pg_name (i := 3) sc_Ways_count.nd rfl (Or.inl rfl)) (pgs_cons (pg_name (i := 4) sc_Ways_count.nd rfl (Or.inl rfl)) pgs_nil))) (pss_cons (ps_if (pt_cmpR op_gt (pv 4) (pe_fld (pv 0) rfl) (nomark _)) (pss_one ps_never) pss_nil)
      (pss_one (ps_set (i := 2) sc_Ways_count.nd rfl (Or.inl rfl) (pe_op op_mul (pv 2) (pv 4))))))
    (pss_cons (ps_if (pt_cmpR op_gt (pe_fld (pv 0) rfl) (pe_fld (pv 0) rfl) (nomark _)) (pss_one ps_never) pss_nil)
    (pss_one (ps_if (pt_cmpR op_eq (pe_fld (pv 1) rfl) pe_int (nomark _)) (pss_one (ps_dput (hu_of hr) (pe_fld (pv 0) rfl) (pv 2) (pe_op op_add (pe_dget2 (hu_of hr) (pe_fld (pv 0) rfl) (pv 2) pe_int ⟨rfl, rfl, rfl, rfl⟩) pe_int) rfl)) pss_nil)))))), ?_⟩
  have hlen := hp.1
  have nxw : x ≠ wd := ne_of hW.ob hW.dc (by intro z; cases z)
  have nxp : x ≠ pl := ne_of hW.ob hpl (insne (by simp))
  have nxd : x ≠ da := ne_of hW.ob hda (by intro z; cases z)
  refine ⟨_, rfl, x, _, dx, _, _, rfl, hW.ob, Z.ways.cl, Z.ways.na 1, rfl, _, _, rfl, rfl, dx, _, hW.ob, (by show 3 < 1000; decide), ?_⟩
  generalize e1 : upd H x _ = H1
  have b1 : But [x] H H1 := by rw [← e1]; exact But.upd (by simp)
  have tm1 : Tm K H H1 := b1.tm (fun b hb => by rw [List.mem_singleton.mp hb, hW.ob]; trivial)
  have hob1 : H1 x = some (.ins (He.ga K "Ways") dx (fWays (cnt + 1) wd)) := by rw [← e1, upd_same]; rfl
  have hdc1 : H1 wd = _ := b1 _ _ (by simpa using nxw.symm) hW.dc
  have hpl1 := b1 _ _ (by simpa using nxp.symm) hpl
  have hda1 := b1 _ _ (by simpa using nxd.symm) hda
  have hp1 := hp.tm tm1
  refine ⟨_, rfl, pl, _, dp, _, _, rfl, hpl1, Z.play.cl, Z.play.na 2, rfl, da, rfl, ⟨_, .inl (.inl hda1)⟩, forW (wn_list (.inl (.inl hda1))) (fun i σ H' => ∃ u3 u4 : Option V, σ = [some (.ref x), some (.ref pl), some (.int (under (p.take i) : Nat)), u3, u4] ∧ H' = H1) ⟨none, none, rfl, rfl⟩ (fun i σ H' ⟨_, _, _, e⟩ => by rw [e]; exact Same.refl _) ?_ ?_⟩
  · rintro i σ H' hi ⟨u3, u4, rfl, rfl⟩
    have hi2 : i < p.length := by omega
    obtain ⟨t, ht, hS⟩ := hp1.2 _ _ _ (List.getElem?_eq_getElem hi) (List.getElem?_eq_getElem hi2)
    rw [List.getD_eq_getElem?_getD, List.getElem?_eq_getElem hi, Option.getD_some, ht]
    refine ⟨t, _, rfl, hS, rfl, _, _, rfl, _, _, rfl, rfl, ?_⟩
    have hm : (p[i]).2 ≤ 55296 := Nat.le_of_dvd (by decide) (Nat.dvd_trans (many_dvd p _ (List.getElem_mem hi2)) hu)
    refine ⟨_, rfl, _, rfl, x, _, dx, _, _, rfl, hob1, Z.ways.cl, Z.ways.na 0, rfl, _, _, rfl, rfl, _, rfl, ?_⟩
    rw [decide_eq_false (by omega)]
    refine iteF ?_
    refine ⟨_, rfl, _, rfl, _, _, rfl, rfl, .inr ⟨by omega, by omega⟩, ?_⟩
    refine ⟨some (.int ((p[i]).1 : Nat)), some (.int ((p[i]).2 : Nat)), ?_, rfl⟩
    rw [List.take_succ_eq_append_getElem hi2, under_snoc, Int.natCast_mul]; rfl
  · rintro σ H' ⟨u3, u4, rfl, rfl⟩
    rw [hlen, List.take_length]
    refine ⟨_, rfl, x, _, dx, _, _, rfl, hob1, Z.ways.cl, Z.ways.na 1, rfl, _, rfl, x, _, dx, _, _, rfl, hob1, Z.ways.cl, Z.ways.na 0, rfl, _, _, rfl, rfl, _, rfl, ?_⟩
    rw [decide_eq_false (by omega)]
    refine iteF ?_
    refine ⟨_, rfl, pl, _, dp, _, _, rfl, hpl1, Z.play.cl, Z.play.na 0, rfl, rfl, _, rfl, ?_⟩
    cases b with
    | false =>
      rw [show decide (V.int ((b2n false : Nat) : Int) = V.int 1) = false by decide]
      refine iteF ?_
      exact hQ _ (b1.mono (by simp)) ⟨hob1, hdc1⟩
    | true =>
      rw [show decide (V.int ((b2n true : Nat) : Int) = V.int 1) = true by decide]
      refine iteT ?_
      refine ⟨_, rfl, x, _, dx, _, _, rfl, hob1, Z.ways.cl, Z.ways.na 2, rfl, wd, rfl, .inl ⟨_, .inl hdc1⟩, _, rfl, _, DGet.k (k := Sum.inl ((under p : Nat) : Int)) hdc1, ?_⟩
      rw [valV_won, show (Option.map (fun c : Nat => V.int (c : Nat)) (D.lookup (under p))).getD (.int 0) = V.int (((D.lookup (under p)).getD 0 : Nat) : Int) by cases D.lookup (under p) <;> rfl]
      refine ⟨_, _, rfl, rfl, ?_⟩
      refine ⟨_, rfl, x, _, dx, _, _, rfl, hob1, Z.ways.cl, Z.ways.na 2, rfl, _, rfl, wd, _, rfl, DPut.k (k := Sum.inl ((under p : Nat) : Int)) hdc1 (by unfold wonV; rw [List.length_map]; exact szlt (by omega)), ?_⟩
      rw [putK_won hnd]
      refine hQ _ ((b1.mono (by simp)).trans (But.upd (by simp))) ⟨?_, upd_same⟩
      rw [upd_ne nxw]; exact hob1
theorem ok_Ways_init (B : Bi mg) (G : Gi K mg) (Z : Zs K) (D : Cdf K mg "Ways" (He.ga K "Ways") "Ways.__init__" s_Ways_init)  (c_played : C8.Cal P w K mg base 9 "played" (sp_played K) []) (m_count : C8.Met P w K mg base 1 (He.ga K "Ways") "count" (sp_count K) []) (c_next_choices : C8.Cal P w K mg base 1 "next_choices" (sp_next_choices K) []) : C8.Mak P w K mg base 10 "Ways" (He.ga K "Ways") (sp_Ways_init K) [] := by
  refine D.mak sc_Ways_init (fun _ _ _ _ _ _ us hl => match us, hl with | [_, _, _, _], _ => rfl) (fun vs H Q E h => ?_) (fun f cdv A outer s H vs Q E hr h => ?_)
  · obtain ⟨x, dx, g, gm, b, v, rfl, _⟩ := h
    rfl
  obtain ⟨x, dx, g, gm, b, v, rfl, hx, hg, hb, hgd, hdp, hS, hQ⟩ := h
  refine ⟨_, (pss_cons (ps_fld (pv 0) (pv 3) rfl)
    (pss_cons (ps_fld (pv 0) pe_int rfl)
    (pss_cons (ps_fld (pv 0) pe_dnewK rfl)
    (pss_cons (ps_set (i := 4) sc_Ways_init.nd rfl (Or.inl rfl) (pe_lst pa_nil))
    (pss_one (ps_while PassesOwn.never (pt_cmpR op_notN (pv 4) pe_non (nomark _)) (pss_cons (ps_set (i := 5) sc_Ways_init.nd rfl (Or.inl rfl) (C8.pe_c c_played hr (by omega) rfl (pa_cons (pv 1) (pa_cons (pv 2) (pa_cons (pv 4) pa_nil)))))
      (pss_cons (ps_expr (C8.pe_mt m_count hr (by omega) (pv 0) (pa_cons (pv 5) pa_nil)))
      (pss_one (ps_set (i := 4) sc_Ways_init.nd rfl (Or.inl rfl) (C8.pe_c c_next_choices hr (by omega) rfl (pa_cons (pe_fld (pv 5) rfl) pa_nil)))))))))))), ?_⟩
  refine ⟨_, rfl, _, rfl, x, _, dx, _, rfl, hx, Z.ways.cl, Z.ways.na 0, (by show 0 < 1000; decide), ?_⟩
  refine ⟨_, rfl, x, _, dx, _, rfl, upd_same, Z.ways.cl, Z.ways.na 1, (by show 1 < 1000; decide), ?_⟩
  intro wd hwd
  have nxw : x ≠ wd := fun e => by rw [← e, upd_same] at hwd; cases hwd
  have hwd0 : H wd = none := by rw [upd_ne nxw.symm, upd_ne nxw.symm] at hwd; exact hwd
  refine ⟨_, rfl, x, _, dx, _, rfl, by rw [upd_ne nxw]; exact upd_same, Z.ways.cl, Z.ways.na 2, (by show 2 < 1000; decide), ?_⟩
  refine ⟨Nat.zero_le _, fun c0 hc0 => ?_⟩
  have nxc : x ≠ c0 := fun e => by rw [← e, upd_same] at hc0; cases hc0
  have nwc : wd ≠ c0 := fun e => by rw [← e, upd_ne nxw.symm, upd_same] at hc0; cases hc0
  have hc00 : H c0 = none := by rw [upd_ne nxc.symm, upd_ne nwc.symm, upd_ne nxc.symm, upd_ne nxc.symm] at hc0; exact hc0
  generalize e1 : upd _ c0 _ = H1
  have b1 : But [x] H H1 := by
    rw [← e1]
    intro z o nz q
    have nz : z ≠ x := by simpa using nz
    rw [upd_ne (ne_of_none q hc00), upd_ne nz, upd_ne (ne_of_none q hwd0), upd_ne nz, upd_ne nz]; exact q
  have hW1 : WaysAt K H1 x dx wd [] 0 := by
    rw [← e1]
    exact ⟨by rw [upd_ne nxc, upd_same]; rfl, by rw [upd_ne nwc, upd_ne nxw.symm, upd_same]; rfl⟩
  have hc1 : H1 c0 = some (.lst []) := by rw [← e1, upd_same]
  have tmx : ∀ {H2 : Hp}, But [x] H H2 → Tm K H H2 := fun h => h.tm (fun b hb => by rw [List.mem_singleton.mp hb, hx]; trivial)
  refine ⟨fun m σ H' => ∃ (L R : List (Path × Bs)) (o : Option (List Nat)) (cv : V) (u : Option V), σ = [some (.ref x), some (.ref g), some v, some (.int 300000), some cv, u] ∧ But [x] H H' ∧ WaysAt K H' x dx wd (wonOf L) L.length ∧ ChAt K H' o cv ∧ Seq (follow (gm.tr b)) o R ∧ L ++ R = leaves (gm.tr b) ∧ m = R.length,
    ⟨_, [], leaves (gm.tr b), some [], .ref c0, none, rfl, b1, hW1, ⟨c0, rfl, .inl (.inl hc1)⟩, seq_leaves _ hS.ok, rfl, rfl⟩, ?_⟩
  rintro m σ H' ⟨L, R, o, cv, u, rfl, hbt, hW, hch, hseq, hLR, rfl⟩
  refine ⟨_, rfl, rfl, _, rfl, ?_⟩
  cases hseq with
  | nil =>
    have e : cv = .non := hch
    subst e
    rw [show (!decide (V.non = V.non)) = false by decide]
    refine iteF ?_
    rw [List.append_nil] at hLR
    subst hLR
    exact hQ wd H' hbt hW
  | cons h1 h2 =>
    rename_i cs r R
    obtain ⟨c, rfl, hc⟩ := hch
    rw [show (!decide (V.ref c = V.non)) = true by simp]
    refine iteT ?_
    refine ⟨_, fun _ _ n => n, ?_⟩
    have tm0 := tmx hbt
    have hmem : r ∈ leaves (gm.tr b) := by rw [← hLR]; simp
    have hLn : L.length + (R.length + 1) = (leaves (gm.tr b)).length := by rw [← hLR]; simp
    refine ⟨_, rfl, _, rfl, _, rfl, g, c, gm, b, v, cs, r.1, r.2, rfl, hg.tm tm0, hb.tm tm0, hgd, hdp, hc, h1, fun pl dp da la ts H2 s2 hpl hda hpa hln => ?_⟩
    have hW2 : WaysAt K H2 x dx wd (wonOf L) L.length := ⟨s2 _ _ hW.ob, s2 _ _ hW.dc⟩
    have hun := hS.dv r hmem
    have hnd := wonOf_nodup L
    have hkeys : ∀ k ∈ (wonOf L).map (·.1), k ∣ 55296 := fun k hk => by
      obtain ⟨r', hr', rfl⟩ := wonOf_keys L k hk
      exact hS.dv r' (by rw [← hLR]; exact List.mem_append_left _ hr')
    have hfew := divs_few hnd hkeys
    rw [List.length_map] at hfew
    have hways := hS.ways
    refine ⟨_, rfl, x, dx, _, rfl, hW2.ob, rfl, _, rfl, x, dx, wd, pl, dp, da, la, wonOf L, L.length, won r.2, r.2, ts, r.1, rfl, hW2, hpl, hda, hpa, hun, by omega, hnd, by omega, fun H3 hb3 hW3 => ?_⟩
    have nwx : wd ≠ x := fun e => nxw e.symm
    have hpd : pl ∉ [x, wd] := by
      have a := ne_of hpl hW2.ob (insne (by simp))
      have b := ne_of hpl hW2.dc (by intro z; cases z)
      simp [a, b]
    have hdd : da ∉ [x, wd] := by
      have a := ne_of hda hW2.ob (by intro z; cases z)
      have b := ne_of hda hW2.dc (by intro z; cases z)
      simp [a, b]
    have hpl3 := hb3 _ _ hpd hpl
    have hda3 := hb3 _ _ hdd hda
    have tm3 : Tm K H2 H3 := hb3.tm (fun z hz => by
      rcases List.mem_cons.mp hz with e | e
      · rw [e, hW2.ob]; trivial
      · rw [List.mem_singleton.mp e, hW2.dc]; trivial)
    refine ⟨_, rfl, pl, _, dp, _, _, rfl, hpl3, Z.play.cl, Z.play.na 2, rfl, da, ts, r.1, rfl, hda3, hpa.tm tm3, by omega, fun cv' H4 s4 hc4 => ?_⟩
    refine ⟨R.length, by simp, L ++ [r], R, nextC r.1, cv', _, rfl, ?_, ?_, hc4, h2, by simpa using hLR, rfl⟩
    · intro z o nz q
      have q2 := s2 _ _ (hbt z o nz q)
      refine s4 _ _ (hb3 _ _ ?_ q2)
      intro hz
      rcases List.mem_cons.mp hz with e | e
      · exact nz (by rw [e]; simp)
      · rw [List.mem_singleton.mp e, hwd0] at q; cases q
    · rw [wonOf_snoc, List.length_append]
      exact ⟨s4 _ _ hW3.ob, s4 _ _ hW3.dc⟩
end
end BB
set_option maxHeartbeats 4000000
namespace BB
open PySem PySem.Spec PyProof.Rows L2
theorem p_ent {t : Tr} (h : dvT 55296 t) : Ent 55296 t.p := by
  rw [← p_leaves]
  refine Ent.sum fun r hr => ?_
  unfold wt
  have hu := h r hr
  have h0 : 0 < under r.1 := Nat.pos_of_dvd_of_pos hu (by decide)
  cases won r.2
  · have := Ent.frac hu h0 0
    exact this
  · have := Ent.frac hu h0 1
    exact this
theorem Ent.small {q : Rat} (h : Ent 55296 q) : q.den < 2 ^ 40 := Nat.lt_of_le_of_lt (Nat.le_of_dvd (by decide) (h.den (by decide))) (by decide)
/-- a def with keyword-only defaults -/
structure DfnK (K : PySem.W.Frag) (mg : Str → Option Value) (x : Str) (st : Stmt) (kws : List (Str × V)) : Prop where
  ex : ∃ f fd, FunD K x x (defArgs st) (defBody st) (defScope st) [] kws f fd ∧ mg x = some (.ref f)
def KF (D : List (Nat × Nat)) (i : Int) : Rat := fq (i.toNat, (D.lookup i.toNat).getD 0)
section
variable {P : Program} {w : World} {K : PySem.W.Frag} {mg : Str → Option Value} {base : Heap}
theorem ok_Ways_chance (B : Bi mg) (G : Gi K mg) (Z : Zs K) (D : Mdf K (He.ga K "Ways") "chance" "Ways.chance" s_Ways_chance)  (c_fraction : C8.Cal P w K mg base 1 "fraction" (sp_fraction K) []) (c_add : C8.Cal P w K mg base 2 "add" (sp_add K) []) : C8.Met P w K mg base 3 (He.ga K "Ways") "chance" (sp_chance K) [] := by
  refine D.met sc_Ways_chance (fun _ _ _ _ _ _ us hl => match us, hl with | [_], _ => rfl) (fun vs H Q E h => ?_) (fun f cdv A outer s H vs Q E hr h => ?_)
  · obtain ⟨x, dx, wd, t, cnt, rfl, _⟩ := h
    rfl
  obtain ⟨x, dx, wd, t, cnt, rfl, hW, hS, hQ⟩ := h
  refine ⟨_, (pss_cons (ps_set (i := 1) sc_Ways_chance.nd rfl (Or.inl rfl) (pe_tup (pa_cons pe_int (pa_cons pe_int pa_nil))))
    (pss_cons (ps_for PassesOwn.never rfl (pi_list (pe_callB (call_sortedDI rfl) (by rfl) B.sorted (by decide +kernel) (pa_cons (pe_fld (pv 0) rfl) pa_nil))) (pg_name (i := 2) sc_Ways_chance.nd rfl (Or.inl rfl)) (pss_one (ps_set (i := 1) sc_Ways_chance.nd rfl (Or.inl rfl) (C8.pe_c c_add hr (by omega) rfl (pa_cons (pv 1) (pa_cons (C8.pe_c c_fraction hr (by omega) rfl (pa_cons (pe_dget (hu_of hr) (pe_fld (pv 0) rfl) (pv 2) (fun _ _ => rfl)) (pa_cons (pv 2) pa_nil))) pa_nil))))))
    (pss_one (ps_ret (pv 1))))), ?_⟩
  have hnd := wonOf_nodup (leaves t)
  have hkeys : ∀ k ∈ (wonOf (leaves t)).map (·.1), k ∣ 55296 := fun k hk => by
    obtain ⟨r', hr', rfl⟩ := wonOf_keys _ k hk
    exact hS.dv r' hr'
  have hsum := wonOf_sum (leaves t)
  rw [p_leaves] at hsum
  generalize wonOf (leaves t) = D at hW hnd hkeys hsum
  have hfew := divs_few hnd hkeys
  rw [List.length_map] at hfew
  refine ⟨(by show 2 ≤ sizeLine; decide), fun t0 ht0 => ?_⟩
  have s0 : Same H (upd H t0 (.tup [.int 0, .int 1])) := Same.new ht0
  have hob := s0 _ _ hW.ob
  have hdc := s0 _ _ hW.dc
  have hT0 : FrAt K (upd H t0 (.tup [.int 0, .int 1])) t0 0 := .inl (.inl upd_same)
  generalize upd H t0 _ = H0 at s0 hob hdc hT0 ⊢
  refine ⟨_, rfl, x, _, dx, _, _, rfl, hob, Z.ways.cl, Z.ways.na 2, rfl, wd, _, D.map (fun q => (q.1 : Int)), rfl, .inl hdc, ?_, by rw [List.length_map]; exact hfew, fun ys p hperm _ hp => ?_⟩
  · unfold wonV
    rw [List.map_map, List.map_map]; rfl
  have s1 : Same H0 (upd H0 p (.lst (ys.map V.int))) := Same.new hp
  have hmem : ∀ y ∈ ys, ∃ k : Nat, k ∈ D.map (·.1) ∧ y = (k : Int) := fun y hy => by
    obtain ⟨q, hq, e⟩ := List.mem_map.mp (hperm.mem_iff.mp hy)
    exact ⟨q.1, List.mem_map_of_mem hq, e.symm⟩
  have hent : ∀ y ∈ ys, Ent 55296 (KF D y) := fun y hy => by
    obtain ⟨k, hk, rfl⟩ := hmem y hy
    have hd := hkeys k hk
    have := Ent.frac hd (Nat.pos_of_dvd_of_pos hd (by decide)) (((D.lookup k).getD 0 : Nat) : Int)
    exact this
  have hlen : ys.length ≤ 64 := by rw [hperm.length_eq, List.length_map]; omega
  refine ⟨p, rfl, ⟨_, .inl (.inl upd_same)⟩, forW (wn_list (.inl (.inl upd_same))) (fun i σ H' => ∃ (tot : Addr) (u : Option V), σ = [some (.ref x), some (.ref tot), u] ∧ Same (upd H0 p (.lst (ys.map V.int))) H' ∧ FrAt K H' tot (sumR (ys.take i) (KF D))) ⟨t0, none, rfl, Same.refl _, hT0.tm s1.tm⟩ (fun i σ H' ⟨_, _, _, e, _⟩ => e) ?_ ?_⟩
  · rintro i σ H' hi ⟨tot, u, rfl, s2, htot⟩
    have hi : i < ys.length := by simpa using hi
    rw [map_getD hi]
    have hyi : ys[i] ∈ ys := List.getElem_mem hi
    obtain ⟨k, hk, ek⟩ := hmem _ hyi
    have hkd := hkeys k hk
    have hk0 : 0 < k := Nat.pos_of_dvd_of_pos hkd (by decide)
    have hk9 : k ≤ 55296 := Nat.le_of_dvd (by decide) hkd
    obtain ⟨q, hq, eq⟩ := List.mem_map.mp hk
    have hlk : D.lookup k = some q.2 := by rw [← eq]; exact lookup_of hnd hq
    have s3 := s1.trans s2
    refine ⟨_, rfl, _, rfl, x, _, dx, _, _, rfl, s3 _ _ hob, Z.ways.cl, Z.ways.na 2, rfl, _, rfl, wd, .int (q.2 : Nat), rfl, ?_, _, rfl, ((q.2 : Nat) : Int), k, ?_, hk0, by omega, fun p2 H2 s4 hp2 => ?_⟩
    · rw [ek]
      have := DGet.k (k := Sum.inl (k : Int)) (s3 _ _ hdc)
      rw [valV_won, hlk] at this
      exact this
    · rw [ek]; rfl
    have hy : ((((q.2 : Nat) : Int)) : Rat) / (k : Rat) = KF D ys[i] := by
      unfold KF fq
      rw [ek, Int.toNat_natCast, hlk]; rfl
    rw [hy] at hp2
    have e1 : Ent 55296 (sumR (ys.take i) (KF D)) := Ent.sum fun y hy => hent y (List.mem_of_mem_take hy)
    refine ⟨tot, p2, _, _, rfl, htot.tm s4.tm, hp2, e1.small, (hent _ hyi).small, fun p3 H3 s5 hp3 => ?_⟩
    refine ⟨p3, some (.int ys[i]), rfl, (s2.trans s4).trans s5, ?_⟩
    rw [List.take_succ_eq_append_getElem hi, sumR_append, sumR_cons, sumR_nil]
    have : KF D ys[i] + 0 = KF D ys[i] := by grind
    rw [this]
    exact hp3
  · rintro σ H' ⟨tot, u, rfl, s2, htot⟩
    rw [List.length_map, List.take_length, sumR_perm _ hperm, sumR_map] at htot
    have e : sumR D (fun a => KF D (a.1 : Int)) = t.p := by
      rw [← hsum, ← keys_sum hnd, sumR_map]
      rfl
    rw [e] at htot
    exact ⟨_, rfl, hQ tot H' (s0.trans (s1.trans s2)) htot⟩
end
/-- blocks -/
inductive Bk where
  | gen (n m : Nat) (rows : List Bs)
  | fn (n l m : Nat) (tb : List (List Bs))
def Bk.gm (r : Bool) (blk : Addr) : Bk → Gm
  | .gen n m rows => .gen r blk n m rows
  | .fn n l m tb => .fn r blk n l m tb
def Bk.At (K : PySem.W.Frag) (H : Hp) (blk : Addr) : Bk → Prop
  | .gen n m rows => GenAt K H blk n m rows ∧ GenOk rows n m ∧ 1 ≤ n ∧ n ≤ 2 ∧ 1 ≤ m ∧ m ≤ 4
  | .fn n l m tb => FunAt K H blk n l m tb ∧ TabOk tb n l m ∧ 1 ≤ n ∧ n ≤ 2 ∧ 1 ≤ l ∧ l ≤ 2 ∧ 1 ≤ m ∧ m ≤ 2
def Bk.adv (b : Brk) : Bk → Rat
  | .gen n m rows => gAdv rows m b
  | .fn n l m tb => BB.adv (tabF tb m) n l m b (List.range (2 ^ n)) [] []
def Bk.kind : Bk → Str
  | .gen _ _ _ => "generator"
  | .fn _ _ _ _ => "function"
def Bk.mm : Bk → Nat
  | .gen _ _ _ => 2
  | .fn _ _ m _ => m
theorem Bk.At.tm {K : PySem.W.Frag} {H H' : Hp} {a : Addr} {k : Bk} (t : Tm K H H') (h : k.At K H a) : k.At K H' a := by
  cases k with
  | gen n m rows => exact ⟨h.1.tm t, h.2⟩
  | fn n l m tb => exact ⟨h.1.tm t, h.2⟩
theorem Bk.At.gm {K : PySem.W.Frag} {H : Hp} {a : Addr} {k : Bk} (h : k.At K H a) (r : Bool) : (k.gm r a).bk K H := by
  cases k with
  | gen n m rows => obtain ⟨a1, a2, a3, a4, a5, a6⟩ := h; exact ⟨a1, a2, by omega, by omega⟩
  | fn n l m tb => obtain ⟨a1, a2, a3, a4, a5, a6, a7, a8⟩ := h; exact ⟨a1, a2, by omega, by omega, by omega⟩
theorem Bk.At.blk {K : PySem.W.Frag} {H : Hp} {a : Addr} {k : Bk} (h : k.At K H a) : BlkAt K H a := by
  cases k with
  | gen n m rows => obtain ⟨a1, a2, a3, a4, a5, a6⟩ := h; exact .gen a1 a2 a3 (by omega) a5 (by omega)
  | fn n l m tb => obtain ⟨a1, a2, a3, a4, a5, a6, a7, a8⟩ := h; exact .fn a1 a2 a3 (by omega) a5 (by omega) a7 (by omega)
theorem Bk.At.first {K : PySem.W.Frag} {H : Hp} {a : Addr} {k : Bk} (h : k.At K H a) : ∃ r, SqT K H a (.str k.kind :: r) := by
  cases k with
  | gen n m rows => obtain ⟨⟨q, h1, _⟩, _⟩ := h; exact ⟨_, h1⟩
  | fn n l m tb => obtain ⟨⟨q, qs, h1, _⟩, _⟩ := h; exact ⟨_, h1⟩
theorem Bk.gm_kind (k : Bk) (r : Bool) (a : Addr) : (k.gm r a).kind = k.kind ∧ (k.gm r a).blk = a ∧ (k.gm r a).real = r := by cases k <;> exact ⟨rfl, rfl, rfl⟩
theorem Bk.At.S {K : PySem.W.Frag} {H : Hp} {a : Addr} {k : Bk} (h : k.At K H a) {b : Brk} (s : BrS b k.mm) (r : Bool) : TrS ((k.gm r a).tr b) := by
  cases k with
  | gen n m rows =>
    obtain ⟨a1, a2, a3, a4, a5, a6⟩ := h
    cases r with
    | true => exact gReal_S a2 (by omega) s
    | false => exact gAny_S (by omega) s
  | fn n l m tb =>
    obtain ⟨a1, a2, a3, a4, a5, a6, a7, a8⟩ := h
    cases r with
    | true => exact fReal_S (by omega) s
    | false => exact fAny_S (by omega) s
theorem Bk.adv_p (k : Bk) (a : Addr) (b : Brk) : k.adv b = ((k.gm true a).tr b).p - ((k.gm false a).tr b).p := by
  cases k with
  | gen n m rows => exact gAdv_p rows m b
  | fn n l m tb => exact BB.adv_p _ _ _ _ _
def sp_advantage (K : PySem.W.Frag) : Sp := fun vs H Q _ => ∃ (blk : Addr) (k : Bk) (b : Brk) (v : V), vs = [.ref blk, v, .int 300000] ∧ k.At K H blk ∧ BrkAt K H b v ∧ BrS b k.mm ∧ b.depth ≤ 60 ∧ b.nodes ≤ 2000 ∧ ∀ a H', Same H H' → FrAt K H' a (k.adv b) → Q (.ref a) H'
section
variable {P : Program} {w : World} {K : PySem.W.Frag} {mg : Str → Option Value} {base : Heap}
theorem ok_advantage (B : Bi mg) (G : Gi K mg) (D : DfnK K mg "advantage" s_advantage [("most", .int 300000)]) (c_check_block : C8.Cal P w K mg base 4 "check_block" (sp_check_block K) []) (c_check_breaker : C8.Cal P w K mg base 5 "check_breaker" (sp_check_breaker K) []) (k_Ways : C8.Mak P w K mg base 10 "Ways" (He.ga K "Ways") (sp_Ways_init K) []) (m_chance : C8.Met P w K mg base 3 (He.ga K "Ways") "chance" (sp_chance K) []) (c_less : C8.Cal P w K mg base 2 "less" (sp_less K) []) : C8.Cal P w K mg base 12 "advantage" (sp_advantage K) [.int 300000] := by
  obtain ⟨f, fd, F, g⟩ := D.ex
  obtain ⟨ds, dv, db⟩ := F.binds0 (ps := ["block", "breaker", "most"]) 2 (by simp) rfl (fun D doc pm an cdv ct us ks h1 h2 => match us, ks, h1, h2 with | [_, _], [_], _, _ => ⟨_, _, _, _, _, _, rfl, rfl, rfl⟩)
  refine ⟨f, fd, _, ds, F.ok sc_advantage (fun vs H Q E h => ?_) fun cdv A outer s H vs Q E hr h => ?_, g, F.kp, db, dv⟩
  · obtain ⟨blk, k, b, v, rfl, _⟩ := h
    rfl
  suffices hh : ∃ t, PSs (cxOf CX0 P w K mg base ["block", "breaker", "most", "real"] "advantage" (defScope s_advantage) f cdv A outer s H E).nox (defBody s_advantage) t ∧ t { nx := fun _ H' => Q .non H', rt := Q } (start ["block", "breaker", "most", "real"] vs) H by
    obtain ⟨t, h1, h2⟩ := hh
    exact ⟨t, h1.nox, h2⟩
  obtain ⟨blk, k, b, v, rfl, hB, hb, hS, hdp, hnd, hQ⟩ := h
  refine ⟨_, (pss_cons (ps_expr (C8.pe_c c_check_block hr (by omega) rfl (pa_cons (pv 0) pa_nil)))
    (pss_cons (ps_expr (C8.pe_c c_check_breaker hr (by omega) rfl (pa_cons (pv 1) pa_nil)))
    (pss_cons (ps_set (i := 3) sc_advantage.nd rfl (Or.inl rfl) (C8.pe_mt0 m_chance hr (by omega) (C8.pe_mk k_Ways hr (by decide) rfl (pa_cons (pe_tup (pa_cons (pe_ix ix_tup (pv 0) pe_int (fun _ _ => rfl)) (pa_cons (pv 0) (pa_cons pe_bl pa_nil)))) (pa_cons (pv 1) (pa_cons (pv 2) pa_nil))))))
    (pss_one (ps_ret (C8.pe_c c_less hr (by omega) rfl (pa_cons (pv 3) (pa_cons (C8.pe_mt0 m_chance hr (by omega) (C8.pe_mk k_Ways hr (by decide) rfl (pa_cons (pe_tup (pa_cons (pe_ix ix_tup (pv 0) pe_int (fun _ _ => rfl)) (pa_cons (pv 0) (pa_cons pe_bl pa_nil)))) (pa_cons (pv 1) (pa_cons (pv 2) pa_nil))))) pa_nil)))))))), ?_⟩
  refine ⟨_, rfl, blk, rfl, hB.blk, fun H1 s1 => ?_⟩
  refine ⟨_, rfl, b, v, rfl, hb.tm s1.tm, hS.good, hdp, hnd, fun H2 s2 => ?_⟩
  have s12 := s1.trans s2
  have key : ∀ (r : Bool) (H3 : Hp) (t : Addr), Same H H3 → H3 t = none → GmAt K (upd H3 t (.tup [.str k.kind, .ref blk, .bl r])) t (k.gm r blk) := fun r H3 t s ht => by
    have st : Same H (upd H3 t (.tup [.str k.kind, .ref blk, .bl r])) := s.trans (Same.new ht)
    refine ⟨?_, (hB.tm st.tm).gm r⟩
    obtain ⟨e1, e2, e3⟩ := k.gm_kind r blk
    rw [e1, e2, e3]
    exact .inl (.inl upd_same)
  obtain ⟨r1, hf1⟩ := hB.first
  refine ⟨_, rfl, _, _, _, _, rfl, rfl, s12.tup hf1, at0 _ _, _, rfl, (by show 3 ≤ sizeLine; decide), fun t ht => ?_⟩
  have g1 := key true H2 t s12 ht
  have st : Same H (upd H2 t (.tup [.str k.kind, .ref blk, .bl true])) := s12.trans (Same.new ht)
  refine ⟨_, rfl, _, rfl, fun x dx nx ndx nex => ?_⟩
  have sx := made2 (o := .own x) (o' := .ins (He.ga K "Ways") dx []) nx ndx nex
  refine ⟨x, dx, t, k.gm true blk, b, v, rfl, upd_same, g1.tm sx.tm, hb.tm (st.trans sx).tm, hS.good, hdp, hB.S hS true, fun wd H3 b3 hW3 => ⟨rfl, ?_⟩⟩
  have s3 : Same H H3 := b3.same0 (st.trans sx) (by simpa using st.none nx)
  refine ⟨x, dx, _, rfl, hW3.ob, rfl, x, dx, wd, (k.gm true blk).tr b, _, rfl, hW3, hB.S hS true, fun a1 H4 s4 ha1 => ?_⟩
  have s14 := s3.trans s4
  refine ⟨_, rfl, _, rfl, _, _, _, _, rfl, rfl, s14.tup hf1, at0 _ _, _, rfl, (by show 3 ≤ sizeLine; decide), fun u hu => ?_⟩
  have g2 := key false H4 u s14 hu
  have su : Same H (upd H4 u (.tup [.str k.kind, .ref blk, .bl false])) := s14.trans (Same.new hu)
  refine ⟨_, rfl, _, rfl, fun y dy ny ndy ney => ?_⟩
  have sy := made2 (o := .own y) (o' := .ins (He.ga K "Ways") dy []) ny ndy ney
  refine ⟨y, dy, u, k.gm false blk, b, v, rfl, upd_same, g2.tm sy.tm, hb.tm (su.trans sy).tm, hS.good, hdp, hB.S hS false, fun we H5 b5 hW5 => ⟨rfl, ?_⟩⟩
  have s45 : Same H4 H5 := b5.same0 ((Same.new hu).trans sy) (by
    have : H4 y = none := (Same.new hu).none ny
    simpa using this)
  refine ⟨y, dy, _, rfl, hW5.ob, rfl, y, dy, we, (k.gm false blk).tr b, _, rfl, hW5, hB.S hS false, fun a2 H6 s6 ha2 => ?_⟩
  refine ⟨a1, a2, _, _, rfl, ha1.tm (s45.trans s6).tm, ha2, (p_ent (hB.S hS true).dv).small, (p_ent (hB.S hS false).dv).small, fun a3 H7 s7 ha3 => ?_⟩
  refine hQ a3 H7 (s14.trans ((s45.trans s6).trans s7)) ?_
  rw [k.adv_p blk]
  exact ha3
end
end BB
set_option maxHeartbeats 4000000
namespace BB
open PySem PySem.Spec PyProof.Rows L2
theorem rnum_pos (q : Rat) : 0 < q.num ↔ 0 < q := by
  rw [Rat.lt_iff]; simp
/-! ### breakers as data -/
def dP : Part → PyData
  | .lit b => .str (sOf [b])
  | .bit i => .int i
def dB : Brk → PyData
  | .say ps => .tuple [.str "say", .tuple (ps.map dP)]
  | .toss _ => .none
  | .look i f s => .tuple [.str "look", .int i, dB f, dB s]
  | .ask ps n => .tuple [.str "ask", .tuple (ps.map dP), dB n]
theorem eqv_dP : ∀ p q : Part, PyData.eqv (dP p) (dP q) = true ↔ p = q
  | .lit a, .lit b => by
    unfold dP
    rw [PyData.eqv]
    constructor
    · intro h
      have h := sOf_inj (eq_of_beq h)
      simp at h
      rw [h]
    · intro h
      cases h
      exact beq_self_eq_true _
  | .bit i, .bit j => by
    unfold dP
    rw [PyData.eqv]
    constructor
    · intro h
      have h : (i : Int) = (j : Int) := eq_of_beq h
      have : i = j := by omega
      rw [this]
    · intro h
      cases h
      exact beq_self_eq_true _
  | .lit a, .bit j => by
    unfold dP
    rw [PyData.eqv]
    exact ⟨fun h => (by cases h), fun h => (by cases h)⟩
  | .bit i, .lit b => by
    unfold dP
    rw [PyData.eqv]
    exact ⟨fun h => (by cases h), fun h => (by cases h)⟩
theorem eqv_dPs : ∀ ps qs : List Part, PyData.eqvAll (ps.map dP) (qs.map dP) = true ↔ ps = qs
  | [], [] => by rw [List.map_nil, PyData.eqvAll]; simp
  | [], q :: qs => by rw [List.map_nil, List.map_cons, PyData.eqvAll]; simp
  | p :: ps, [] => by rw [List.map_nil, List.map_cons, PyData.eqvAll]; simp
  | p :: ps, q :: qs => by rw [List.map_cons, List.map_cons, PyData.eqvAll, Bool.and_eq_true, eqv_dP, eqv_dPs ps qs, List.cons.injEq]
theorem wd_ne1 : ((("say" : Str) == "look") = false) ∧ ((("say" : Str) == "ask") = false) ∧ ((("look" : Str) == "say") = false) ∧ ((("look" : Str) == "ask") = false) ∧ ((("ask" : Str) == "say") = false) ∧ ((("ask" : Str) == "look") = false) := by decide +kernel
theorem wd_eq1 (x : Str) : (x == x) = true := beq_self_eq_true _
theorem eqv_dB : ∀ b : Brk, b.td = 0 → ∀ c : Brk, c.td = 0 → (PyData.eqv (dB b) (dB c) = true ↔ b = c)
  | .toss bs, h => by rw [Brk.td] at h; omega
  | .say ps, h => fun c hc => by
    obtain ⟨w1, w2, w3, w4, w5, w6⟩ := wd_ne1
    cases c with
    | toss cs => rw [Brk.td] at hc; omega
    | say qs => simp only [dB, PyData.eqv, PyData.eqvAll, wd_eq1, Bool.true_and, Bool.and_true, eqv_dPs, Brk.say.injEq]
    | look i f s => simp [dB, PyData.eqv, PyData.eqvAll, w1]
    | ask qs n => simp [dB, PyData.eqv, PyData.eqvAll, w2]
  | .look i f s, h => fun c hc => by
    obtain ⟨w1, w2, w3, w4, w5, w6⟩ := wd_ne1
    rw [Brk.td] at h
    cases c with
    | toss cs => rw [Brk.td] at hc; omega
    | say qs => simp [dB, PyData.eqv, PyData.eqvAll, w3]
    | look j g t =>
      rw [Brk.td] at hc
      have e1 := eqv_dB f (by omega) g (by omega)
      have e2 := eqv_dB s (by omega) t (by omega)
      simp only [dB, PyData.eqv, PyData.eqvAll, wd_eq1, Bool.true_and, Bool.and_true, Bool.and_eq_true, e1, e2, Brk.look.injEq, beq_iff_eq]
      exact ⟨fun ⟨a, b, c⟩ => ⟨by omega, b, c⟩, fun ⟨a, b, c⟩ => ⟨by omega, b, c⟩⟩
    | ask qs n => simp [dB, PyData.eqv, PyData.eqvAll, w4]
  | .ask ps n, h => fun c hc => by
    obtain ⟨w1, w2, w3, w4, w5, w6⟩ := wd_ne1
    rw [Brk.td] at h
    cases c with
    | toss cs => rw [Brk.td] at hc; omega
    | say qs => simp [dB, PyData.eqv, PyData.eqvAll, w5]
    | look j g t => simp [dB, PyData.eqv, PyData.eqvAll, w6]
    | ask qs m =>
      rw [Brk.td] at hc
      have e1 := eqv_dB n h m hc
      simp only [dB, PyData.eqv, PyData.eqvAll, wd_eq1, Bool.true_and, Bool.and_true, Bool.and_eq_true, e1, eqv_dPs, Brk.ask.injEq]
theorem lay_dPs : ∀ ps : List Part, PyData.canLayAll0 (ps.map dP) = true ∧ PyData.depthAll (ps.map dP) = 0
  | [] => by rw [List.map_nil, PyData.canLayAll0, PyData.depthAll]; exact ⟨rfl, rfl⟩
  | p :: ps => by
    obtain ⟨a, b⟩ := lay_dPs ps
    rw [List.map_cons, PyData.canLayAll0, PyData.depthAll, a, b]
    cases p with
    | lit b => cases b <;> (simp only [dP, PyData.canLay0, PyData.depth]; decide +kernel)
    | bit i => simp [dP, PyData.canLay0, PyData.depth]
theorem strOk_w : PyData.strOk "say" = true ∧ PyData.strOk "look" = true ∧ PyData.strOk "ask" = true := by decide +kernel
theorem lay_dB : ∀ b : Brk, (dB b).canLay0 = true ∧ (dB b).depth ≤ b.depth + 1
  | .toss bs => by simp [dB, PyData.canLay0, PyData.depth]
  | .say ps => by
    obtain ⟨a, b⟩ := lay_dPs ps
    simp only [dB, PyData.canLay0, PyData.canLayAll0, PyData.depth, PyData.depthAll, a, b, strOk_w.1, Brk.depth]
    exact ⟨rfl, by decide⟩
  | .look i f s => by
    obtain ⟨a1, b1⟩ := lay_dB f
    obtain ⟨a2, b2⟩ := lay_dB s
    simp only [dB, PyData.canLay0, PyData.canLayAll0, PyData.depth, PyData.depthAll, a1, a2, strOk_w.2.1, Brk.depth]
    exact ⟨rfl, by omega⟩
  | .ask ps n => by
    obtain ⟨a, b⟩ := lay_dPs ps
    obtain ⟨a1, b1⟩ := lay_dB n
    have := depth_pos n
    simp only [dB, PyData.canLay0, PyData.canLayAll0, PyData.depth, PyData.depthAll, a, b, a1, strOk_w.2.2, Brk.depth]
    exact ⟨rfl, by omega⟩
theorem shaped_dB {b : Brk} (h : b.depth ≤ 60) : SeqAt.shaped (dB b) = true := by
  obtain ⟨a, c⟩ := lay_dB b
  unfold SeqAt.shaped
  rw [a, decide_eq_true (by omega)]; rfl
theorem dp_parts {K : PySem.W.Frag} {H : Hp} : ∀ ps : List Part, DpAll K H (ps.map partV) (ps.map dP)
  | [] => .nil
  | .lit b :: ps => .cons (.str _) (dp_parts ps)
  | .bit i :: ps => .cons (.int _) (dp_parts ps)
theorem dp_brk {K : PySem.W.Frag} {H : Hp} : ∀ {b : Brk} {v : V}, b.td = 0 → BrkAt K H b v → Dp K H v (dB b)
  | .toss bs, v, h, _ => by rw [Brk.td] at h; omega
  | .say ps, v, h, ⟨a, p, e, h1, h2⟩ => by
    subst e
    exact .tup h1 (.cons (.str _) (.cons (.tup h2 (dp_parts ps)) .nil))
  | .look i f s, v, h, ⟨a, u, w, e, h1, h2, h3⟩ => by
    subst e
    rw [Brk.td] at h
    exact .tup h1 (.cons (.str _) (.cons (.int _) (.cons (dp_brk (by omega) h2) (.cons (dp_brk (by omega) h3) .nil))))
  | .ask ps n, v, h, ⟨a, p, u, e, h1, h2, h3⟩ => by
    subst e
    rw [Brk.td] at h
    exact .tup h1 (.cons (.str _) (.cons (.tup h2 (dp_parts ps)) (.cons (dp_brk h h3) .nil)))
theorem BrksAt.take {K : PySem.W.Frag} {H : Hp} : ∀ {bs : List Brk} {vs : List V} (n : Nat), BrksAt K H bs vs → BrksAt K H (bs.take n) (vs.take n)
  | _, _, 0, _ => by rw [List.take_zero, List.take_zero]; exact rfl
  | [], vs, n + 1, h => by cases (show vs = [] from h); exact rfl
  | b :: bs, vs, n + 1, ⟨v, ws, e, h1, h2⟩ => by
    subst e
    exact ⟨v, ws.take n, rfl, h1, BrksAt.take n h2⟩
theorem BrksAt.drop {K : PySem.W.Frag} {H : Hp} : ∀ {bs : List Brk} {vs : List V} (n : Nat), BrksAt K H bs vs → BrksAt K H (bs.drop n) (vs.drop n)
  | _, _, 0, h => h
  | [], vs, n + 1, h => by cases (show vs = [] from h); exact rfl
  | b :: bs, vs, n + 1, ⟨v, ws, e, h1, h2⟩ => by
    subst e
    exact BrksAt.drop n h2
theorem looking_ok {c : Nat} {len start : Nat} {bs : List Brk} (h0 : bs.length = 2 ^ len) (h : ∀ b ∈ bs, b.td = 0 ∧ b.depth ≤ c) : (looking start len bs).td = 0 ∧ (looking start len bs).depth ≤ c + len := by
  have hc : 1 ≤ c := by
    have : 0 < bs.length := by rw [h0]; exact Nat.pow_pos (by decide)
    have := (h bs[0] (List.getElem_mem this)).2
    have := depth_pos bs[0]
    omega
  exact ⟨looking_ind (Q := fun b => b.td = 0) (top := start + len) (by rw [Brk.td]) (fun i f s _ a b => by rw [Brk.td]; omega) len start bs (Nat.le_refl _) fun b hb => (h b hb).1,
    looking_max (g := Brk.depth) (fun ps => by rw [Brk.depth]; exact hc) (fun i f s => by rw [Brk.depth]; omega) len start bs fun b hb => (h b hb).2⟩
theorem sc_told_apart : FnScope ["real", "chance_of_any", "gain"] ["real", "chance_of_any"] (defScope s_told_apart) := ⟨rfl, rfl, rfl, by decide +kernel, rfl, by decide +kernel, by decide +kernel⟩
theorem sc_looking : FnScope ["breakers", "start", "length", "middle", "first", "second"] ["breakers", "start", "length"] (defScope s_looking) := ⟨rfl, rfl, rfl, by decide +kernel, rfl, by decide +kernel, by decide +kernel⟩
/-- an end: a gain and a breaker -/
def EndAt (K : PySem.W.Frag) (H : Hp) (p : Addr) (q : Rat × Brk) : Prop := ∃ a v, SqT K H p [.ref a, v] ∧ FrAt K H a q.1 ∧ BrkAt K H q.2 v
theorem EndAt.tm {K : PySem.W.Frag} {H H' : Hp} {p : Addr} {q : Rat × Brk} (t : Tm K H H') (h : EndAt K H p q) : EndAt K H' p q := by
  obtain ⟨a, v, h1, h2, h3⟩ := h
  exact ⟨a, v, t _ _ h1, h2.tm t, h3.tm t⟩
def sp_told_apart (K : PySem.W.Frag) : Sp := fun vs H Q _ => ∃ (a b : Addr) (x y : Rat), vs = [.ref a, .ref b] ∧ FrAt K H a x ∧ FrAt K H b y ∧ x.den < 2 ^ 40 ∧ y.den < 2 ^ 40 ∧ ∀ p H', Same H H' → EndAt K H' p (told1 (x - y)) → Q (.ref p) H'
def sp_looking (K : PySem.W.Frag) (n : Nat) : Sp := fun vs H Q _ => ∃ (l : Addr) (st c : Nat) (bs : List Brk) (us : List V), vs = [.ref l, .int st, .int n] ∧ H l = some (.lst us) ∧ BrksAt K H bs us ∧ bs.length = 2 ^ n ∧ n ≤ 10 ∧ (∀ b ∈ bs, b.td = 0 ∧ b.depth ≤ c) ∧ c + n ≤ 60 ∧
  ∀ v H', Same H H' → BrkAt K H' (looking st n bs) v → Q v H'
section
variable {P : Program} {w : World} {K : PySem.W.Frag} {mg : Str → Option Value} {base : Heap}
theorem ok_told_apart (B : Bi mg) (G : Gi K mg) (D : Dfn K mg "told_apart" s_told_apart)  (c_less : C8.Cal P w K mg base 2 "less" (sp_less K) []) : C8.Cal P w K mg base 3 "told_apart" (sp_told_apart K) [] := by
  refine D.cal sc_told_apart (fun _ _ _ _ _ _ us hl => match us, hl with | [_, _], _ => rfl) (fun vs H Q E h => ?_) (fun f cdv A outer s H vs Q E hr h => ?_)
  · obtain ⟨a, b, x, y, rfl, _⟩ := h
    rfl
  obtain ⟨a, b, x, y, rfl, hx, hy, dx, dy, hQ⟩ := h
  refine ⟨_, (pss_cons (ps_set (i := 2) sc_told_apart.nd rfl (Or.inl rfl) (C8.pe_c c_less hr (by omega) rfl (pa_cons (pv 0) (pa_cons (pv 1) pa_nil))))
    (pss_cons (ps_if (pt_cmpR op_gt (pe_ix ix_tup (pv 2) pe_int (fun _ _ => rfl)) pe_int (nomark _)) (pss_one (ps_ret (pe_tup (pa_cons (pv 2) (pa_cons (pe_tup (pa_cons pe_str (pa_cons (pe_tup (pa_cons pe_str pa_nil)) pa_nil))) pa_nil))))) pss_nil)
    (pss_one (ps_ret (pe_tup (pa_cons (C8.pe_gc rfl G.g_NOUGHT) (pa_cons (pe_tup (pa_cons pe_str (pa_cons (pe_tup (pa_cons pe_str pa_nil)) pa_nil))) pa_nil))))))), ?_⟩
  refine ⟨_, rfl, _, rfl, a, b, x, y, rfl, hx, hy, dx, dy, fun g H1 s1 hg => ?_⟩
  refine ⟨_, rfl, _, _, _, _, rfl, rfl, hg, at0 _ _, _, _, rfl, rfl, _, rfl, ?_⟩
  unfold told1 at hQ
  refine ite2 (fun c => ?_) (fun c => ?_)
  · have c := of_decide_eq_true c
    have hp : 0 < x - y := (rnum_pos _).mp c
    rw [if_pos hp] at hQ
    refine ⟨_, rfl, (by show 1 ≤ sizeLine; decide), fun t1 ht1 => ⟨(by show 2 ≤ sizeLine; decide), fun t2 ht2 => ⟨(by show 2 ≤ sizeLine; decide), fun t3 ht3 => ?_⟩⟩⟩
    have sa : Same H1 (upd H1 t1 (.tup [.str "1"])) := Same.new ht1
    have sb := Same.new (o := .tup [.str "say", .ref t1]) ht2
    have sc := Same.new (o := .tup [.ref g, .ref t2]) ht3
    refine hQ t3 _ (s1.trans (sa.trans (sb.trans sc))) ⟨g, .ref t2, .inl (.inl upd_same), hg.tm (sa.trans (sb.trans sc)).tm, t2, t1, rfl, sc.tm _ _ (.inl (.inl upd_same)), (sb.trans sc).tm _ _ (.inl (.inl ?_))⟩
    rw [upd_same]
    show some (HO.tup [V.str "1"]) = some (.tup [vS [true]])
    rw [show V.str "1" = vS [true] from congrArg V.str BB.s1]
  · have c := of_decide_eq_false (Bool.eq_false_iff.mpr c)
    have hp : ¬ 0 < x - y := fun z => c ((rnum_pos _).mpr z)
    rw [if_neg hp] at hQ
    refine ⟨(by show 1 ≤ sizeLine; decide), fun t1 ht1 => ⟨(by show 2 ≤ sizeLine; decide), fun t2 ht2 => ⟨(by show 2 ≤ sizeLine; decide), fun t3 ht3 => ?_⟩⟩⟩
    have sa : Same H1 (upd H1 t1 (.tup [.str "0"])) := Same.new ht1
    have sb := Same.new (o := .tup [.str "say", .ref t1]) ht2
    have sc := Same.new (o := .tup [.ref (He.ga K "NOUGHT"), .ref t2]) ht3
    refine hQ t3 _ (s1.trans (sa.trans (sb.trans sc))) ⟨He.ga K "NOUGHT", .ref t2, .inl (.inl upd_same), G.t_NOUGHT _, t2, t1, rfl, sc.tm _ _ (.inl (.inl upd_same)), (sb.trans sc).tm _ _ (.inl (.inl ?_))⟩
    rw [upd_same]
    show some (HO.tup [V.str "0"]) = some (.tup [vS [false]])
    rw [show V.str "0" = vS [false] from congrArg V.str s0]
theorem ok_looking (B : Bi mg) (G : Gi K mg) (D : Dfn K mg "looking" s_looking) : ∀ n, C8.Cal P w K mg base (n + 1) "looking" (sp_looking K n) []
  | 0 => by
    refine D.cal sc_looking (fun _ _ _ _ _ _ us hl => match us, hl with | [_, _, _], _ => rfl) (fun vs H Q E h => ?_) (fun f cdv A outer s H vs Q E hr h => ?_)
    · obtain ⟨l, st, c, bs, us, rfl, _⟩ := h
      rfl
    obtain ⟨l, st, c, bs, us, rfl, hl, hbs, hlen, _, hc, _, hQ⟩ := h
    refine ⟨_, (pss_cons (ps_if (pt_cmpR op_eq (pv 2) pe_int (nomark _)) (pss_one (ps_ret (pe_ix ix_list (pv 0) pe_int (fun _ _ => rfl)))) pss_nil)
    (pss_cons ps_never
    (pss_cons ps_never
    (pss_cons ps_never
    (pss_one ps_never))))), ?_⟩
    refine ⟨_, rfl, rfl, _, rfl, ?_⟩
    rw [show decide (V.int ((0 : Nat) : Int) = V.int 0) = true by decide]
    refine iteT ?_
    match bs, us, hbs, hlen with
    | [], _, _, e => simp at e
    | b :: r, _, ⟨v, ws, rfl, h1, h2⟩, _ => exact ⟨_, rfl, l, _, _, _, rfl, rfl, .inl (.inl hl), at0 _ _, hQ v H (Same.refl H) h1⟩
  | n + 1 => by
    have c_looking := ok_looking B G D n
    refine D.cal sc_looking (fun _ _ _ _ _ _ us hl => match us, hl with | [_, _, _], _ => rfl) (fun vs H Q E h => ?_) (fun f cdv A outer s H vs Q E hr h => ?_)
    · obtain ⟨l, st, c, bs, us, rfl, _⟩ := h
      rfl
    obtain ⟨l, st, c, bs, us, rfl, hl, hbs, hlen, hn, hc, hcn, hQ⟩ := h
    refine ⟨_, (pss_cons (ps_if (pt_cmpR op_eq (pv 2) pe_int (nomark _)) (pss_one (ps_ret (pe_ix ix_list (pv 0) pe_int (fun _ _ => rfl)))) pss_nil)
    (pss_cons (ps_set (i := 3) sc_looking.nd rfl (Or.inl rfl) (pe_op op_fdiv (pe_callB call_len_seq (by rfl) B.len PySem.boot_len (pa_cons (pv 0) pa_nil)) pe_int))
    (pss_cons (ps_set (i := 4) sc_looking.nd rfl (Or.inl rfl) (C8.pe_c c_looking hr (by omega) rfl (pa_cons (pe_slice sl_list (pv 0) po_none (po_some (pv 3))) (pa_cons (pe_op op_add (pv 1) pe_int) (pa_cons (pe_op op_sub (pv 2) pe_int) pa_nil)))))
    (pss_cons (ps_set (i := 5) sc_looking.nd rfl (Or.inl rfl) (C8.pe_c c_looking hr (by omega) rfl (pa_cons (pe_slice sl_list (pv 0) (po_some (pv 3)) po_none) (pa_cons (pe_op op_add (pv 1) pe_int) (pa_cons (pe_op op_sub (pv 2) pe_int) pa_nil)))))
    (pss_one (ps_ret (pe_ifExp (pt_cmpR (op_eqD (hr.units)) (pv 4) (pv 5) (nomark _)) (pv 4) (pe_tup (pa_cons pe_str (pa_cons (pv 1) (pa_cons (pv 4) (pa_cons (pv 5) pa_nil)))))))))))), ?_⟩
    have hul := hbs.get.1
    have p2 : 2 ^ (n + 1) = 2 * 2 ^ n := by rw [Nat.pow_succ]; omega
    refine ⟨_, rfl, rfl, _, rfl, ?_⟩
    rw [decide_eq_false (fun z => by have := V.int.inj z; omega)]
    refine iteF ?_
    refine ⟨_, rfl, l, us, rfl, .inl (.inl (.inl hl)), _, _, rfl, rfl, ⟨by decide, by decide⟩, ?_⟩
    dsimp only
    have hmid : (us.length : Int) / 2 = ((us.length / 2 : Nat) : Int) := by omega
    rw [hmid]
    have hcut1 : cutV us none (some ((us.length / 2 : Nat) : Int)) = us.take (us.length / 2) := by
      unfold cutV
      rw [show HT.sIx us.length 0 none = 0 from rfl, HT.sIx_nat, Nat.min_eq_left (by omega), List.drop_zero, Nat.sub_zero]
    have hcut2 : cutV us (some ((us.length / 2 : Nat) : Int)) none = us.drop (us.length / 2) := by
      unfold cutV
      rw [show HT.sIx us.length us.length none = us.length from rfl, HT.sIx_nat, Nat.min_eq_left (by omega)]
      exact List.take_of_length_le (by rw [List.length_drop]; omega)
    have h1len : (bs.take (bs.length / 2)).length = 2 ^ n := by rw [List.length_take]; omega
    have h2len : (bs.drop (bs.length / 2)).length = 2 ^ n := by rw [List.length_drop]; omega
    have hc1 : ∀ b ∈ bs.take (bs.length / 2), b.td = 0 ∧ b.depth ≤ c := fun b hb => hc b (List.mem_of_mem_take hb)
    have hc2 : ∀ b ∈ bs.drop (bs.length / 2), b.td = 0 ∧ b.depth ≤ c := fun b hb => hc b (List.mem_of_mem_drop hb)
    refine ⟨_, rfl, _, rfl, _, rfl, l, us, rfl, .inl (.inl hl), fun d hd => ?_⟩
    rw [hcut1]
    have sd := Same.new (o := .lst (us.take (us.length / 2))) hd
    refine ⟨_, rfl, _, _, rfl, rfl, _, rfl, _, _, rfl, rfl, d, st + 1, c, bs.take (bs.length / 2), _, ?_, upd_same, by rw [hul]; exact (hbs.take (us.length / 2)).tm sd.tm, h1len, by omega, hc1, by omega, fun v1 H1 s1 hv1 => ?_⟩
    · show [V.ref d, V.int ((st : Int) + 1), V.int (((n + 1 : Nat) : Int) - 1)] = _
      rw [show ((n + 1 : Nat) : Int) - 1 = (n : Int) by omega]; rfl
    have s01 := sd.trans s1
    refine ⟨_, rfl, _, rfl, _, rfl, l, us, rfl, .inl (.inl (s01 _ _ hl)), fun e he => ?_⟩
    rw [hcut2]
    have se := Same.new (o := .lst (us.drop (us.length / 2))) he
    refine ⟨_, rfl, _, _, rfl, rfl, _, rfl, _, _, rfl, rfl, e, st + 1, c, bs.drop (bs.length / 2), _, ?_, upd_same, by rw [hul]; exact (hbs.drop (us.length / 2)).tm (s01.trans se).tm, h2len, by omega, hc2, by omega, fun v2 H2 s2 hv2 => ?_⟩
    · show [V.ref e, V.int ((st : Int) + 1), V.int (((n + 1 : Nat) : Int) - 1)] = _
      rw [show ((n + 1 : Nat) : Int) - 1 = (n : Int) by omega]; rfl
    have s02 := s01.trans (se.trans s2)
    have o1 := looking_ok (start := st + 1) h1len hc1
    have o2 := looking_ok (start := st + 1) h2len hc2
    have hv1' := hv1.tm (se.trans s2).tm
    have key1 : looking (st + 1) n (bs.take (bs.length / 2)) = looking (st + 1) n (bs.drop (bs.length / 2)) → ∀ v H', Same H H' → BrkAt K H' (looking (st + 1) n (bs.take (bs.length / 2))) v → Q v H' := fun z v H' s h => hQ v H' s (by rw [looking, if_pos z]; exact h)
    have key2 : ¬ looking (st + 1) n (bs.take (bs.length / 2)) = looking (st + 1) n (bs.drop (bs.length / 2)) → ∀ v H', Same H H' → BrkAt K H' (.look st (looking (st + 1) n (bs.take (bs.length / 2))) (looking (st + 1) n (bs.drop (bs.length / 2)))) v → Q v H' := fun z v H' s h => hQ v H' s (by rw [looking, if_neg z]; exact h)
    refine ⟨_, rfl, _, rfl, _, _, dp_brk o1.1 hv1', dp_brk o2.1 hv2, shaped_dB (by omega), shaped_dB (by omega), _, rfl, ?_⟩
    have ee := eqv_dB _ o1.1 _ o2.1
    refine ite2 (fun q => ?_) (fun q => ?_)
    · exact ⟨_, rfl, key1 (ee.mp q) v1 H2 s02 hv1'⟩
    · have key := key2 (fun z => q (ee.mpr z))
      refine ⟨_, rfl, _, rfl, _, rfl, (by show 4 ≤ sizeLine; decide), fun t ht => ?_⟩
      have st' := Same.new (o := .tup [.str "look", .int st, v1, v2]) ht
      exact key (.ref t) _ (s02.trans st') ⟨t, v1, v2, rfl, .inl (.inl upd_same), hv1'.tm st'.tm, hv2.tm st'.tm⟩
end
end BB
set_option maxHeartbeats 4000000
namespace BB
open PySem PySem.Spec PyProof.Rows L2
/-- [elt for any target in ..], what the elements are being told by R -/
theorem lcR (K : PySem.W.Frag) {J : It} {H1 : Hp} {n : Nat} {item : Nat → V} {ks : List Nat} {g : TG} {te : TE} {σ : L2.St} {D : Addr} {Qd : Hp → Prop} (W : WkN J H1 n item) (hD : H1 D = none) (hn : n ≤ 1000000) (R : Nat → V → Hp → Prop)
    (mono : ∀ i y H H', Tm K H H' → R i y H → R i y H')
    (hs : ∀ i H, i < n → Same H1 H → ∀ (C : VK) (N : Hp → Prop), (∀ y H', Same H H' → R i y H' → C y H') → g (item i) (wipe σ ks) H fun σ2 H2 => wipe σ2 ks = wipe σ ks ∧ tYes σ2 H2 fun b H3 => if b = true then te σ2 H3 C else N H3)
    (hd : ∀ H ys, Same H1 H → H D = some (.lst ys) → ys.length = n → (∀ i y, ys[i]? = some y → R i y H) → Qd H) :
    ∃ W : Nat → Nat → Hp → Prop, (∃ m, W 0 m (upd H1 D (.lst []))) ∧ ∀ i m H, W i m H →
      (J.stop i H ∧ Qd H) ∨ (J.go i H ∧ ∃ Nx : Hp → Prop, (∀ H', Nx H' → ∃ m', m' < m ∧ W (i + 1) m' H') ∧ ∀ x H', J.yld i H x H' → g x (wipe σ ks) H' fun σ2 H2 => wipe σ2 ks = wipe σ ks ∧ tYes σ2 H2 fun b H3 =>
        if b = true then te σ2 H3 fun y H4 => ∃ acc, H4 D = some (.lst acc) ∧ acc.length < sizeLine ∧ Nx (upd H4 D (.lst (acc ++ [y]))) else Nx H3) := by
  refine ⟨fun i m H => m = n - i ∧ i ≤ n ∧ Same H1 H ∧ ∃ ys, H D = some (.lst ys) ∧ ys.length = i ∧ ∀ j y, ys[j]? = some y → R j y H, ⟨n, by simp, Nat.zero_le _, Same.new hD, [], upd_same, rfl, fun j y e => by simp at e⟩, ?_⟩
  rintro i m H ⟨rfl, hi, s, ys, hL, hl, hR⟩
  by_cases hlt : i < n
  · refine .inr ⟨W.go i H hlt s, fun H' => i + 1 ≤ n ∧ Same H1 H' ∧ ∃ ys, H' D = some (.lst ys) ∧ ys.length = i + 1 ∧ ∀ j y, ys[j]? = some y → R j y H', fun H' q => ⟨n - (i + 1), by omega, rfl, q⟩, fun x H' y => ?_⟩
    obtain ⟨e, hx⟩ := W.yld i H x H' hlt s y
    subst e hx
    refine hs i H' hlt s _ _ fun y H2 s' hy => ?_
    have tm : Tm K H2 (upd H2 D (.lst (ys ++ [y]))) := Tm.lst (s' _ _ hL)
    refine ⟨ys, s' _ _ hL, szlt (by omega), by omega, L2.Same.mut (s.trans s') hD, ys ++ [y], upd_same, by simp [hl], fun j z e => ?_⟩
    by_cases hj : j < ys.length
    · rw [List.getElem?_append_left hj] at e
      exact mono j z _ _ (s'.tm.trans tm) (hR j z e)
    · have hj' : j = ys.length := by
        have := (List.getElem?_eq_some_iff.mp e).1
        simp at this; omega
      subst hj'
      rw [List.getElem?_append_right (Nat.le_refl _)] at e
      simp at e
      subst e
      rw [hl]
      exact mono _ _ _ _ tm hy
  · have e : i = n := by omega
    subst e
    exact .inl ⟨W.stop H s, hd H ys s hL hl hR⟩
theorem BrksAt.of_get {K : PySem.W.Frag} {H : Hp} : ∀ {bs : List Brk} {vs : List V}, bs.length = vs.length → (∀ (i : Nat) (b : Brk) (v : V), bs[i]? = some b → vs[i]? = some v → BrkAt K H b v) → BrksAt K H bs vs
  | [], [], _, _ => rfl
  | b :: bs, v :: vs, hl, h => ⟨v, vs, rfl, h 0 b v rfl rfl, BrksAt.of_get (by simpa using hl) fun i b' v' e1 e2 => h (i + 1) b' v' (by simpa using e1) (by simpa using e2)⟩
  | [], _ :: _, hl, _ => by simp at hl
  | _ :: _, [], hl, _ => by simp at hl
theorem frac_den_le (n : Int) {d : Nat} (hd : 0 < d) : ((n : Rat) / (d : Rat)).den ≤ d := by
  rw [frac_den n hd]
  exact Nat.div_le_self _ _
def rLenK (K : PySem.W.Frag) : List V → Hp → VK → Prop := fun xs H Q => ∃ p ys, xs = [V.ref p] ∧ (SqL K H p ys ∨ SqT K H p ys) ∧ Q (V.int (ys.length : Nat)) H
/-- a list of ends -/
def EndsAt (K : PySem.W.Frag) (H : Hp) (es : List (Rat × Brk)) (ys : List V) : Prop := ys.length = es.length ∧ ∀ (i : Nat) (y : V) (q : Rat × Brk), ys[i]? = some y → es[i]? = some q → ∃ p, y = .ref p ∧ EndAt K H p q
theorem EndsAt.tm {K : PySem.W.Frag} {H H' : Hp} {es : List (Rat × Brk)} {ys : List V} (t : Tm K H H') (h : EndsAt K H es ys) : EndsAt K H' es ys := ⟨h.1, fun i y q a b => by
  obtain ⟨p, e, h⟩ := h.2 i y q a b
  exact ⟨p, e, h.tm t⟩⟩
theorem told1_ent {D : Nat} {g : Rat} (h : Ent D g) : Ent D (told1 g).1 := by
  unfold told1
  split
  · exact h
  · exact Ent.zero D
theorem sc_best_of_rows : FnScope ["block", "counts", "_", "row", "ends", "count", "total", "gain", "breaker"] ["block"] (defScope s_best_of_rows) := ⟨rfl, rfl, rfl, by decide +kernel, rfl, by decide +kernel, by decide +kernel⟩
def sp_best_of_rows (K : PySem.W.Frag) : Sp := fun vs H Q _ => ∃ (a : Addr) (n m : Nat) (rows : List Bs), vs = [.ref a] ∧ GenAt K H a n m rows ∧ GenOk rows n m ∧ n ≤ 4 ∧ m ≤ 4 ∧ ∀ p H', Same H H' → EndAt K H' p (gbest rows m) → Q (.ref p) H'
def cntV (rows : List Bs) (m N : Nat) : List V := (List.range N).map fun v => .int (rows.count (bitsOf m v) : Nat)
theorem cntV_snoc {rows : List Bs} {r : Bs} {m : Nat} (hr : r.length = m) : (cntV rows m (2 ^ m)).set (numOf r) (.int ((rows.count r : Nat) + 1)) = cntV (rows ++ [r]) m (2 ^ m) := by
  subst hr
  unfold cntV
  apply List.ext_getElem
  · simp
  · intro i h1 h2
    have hi : i < 2 ^ r.length := by simpa using h2
    rw [List.getElem_set]
    by_cases e : numOf r = i
    · rw [if_pos e]
      subst e
      simp [bitsOf_numOf]
    · rw [if_neg e]
      have : ¬ r = bitsOf r.length i := fun z => e (by rw [z, numOf_bitsOf _ _ hi])
      simp [List.count_append, List.count_cons, this]
section
variable {P : Program} {w : World} {K : PySem.W.Frag} {mg : Str → Option Value} {base : Heap}
theorem ok_best_of_rows (B : Bi mg) (G : Gi K mg) (D : Dfn K mg "best_of_rows" s_best_of_rows)  (c_number_of : C8.Cal P w K mg base 1 "number_of" sp_number_of []) (c_fraction : C8.Cal P w K mg base 1 "fraction" (sp_fraction K) []) (c_add : C8.Cal P w K mg base 2 "add" (sp_add K) []) (c_told_apart : C8.Cal P w K mg base 3 "told_apart" (sp_told_apart K) []) (c_looking : ∀ n, C8.Cal P w K mg base (n + 1) "looking" (sp_looking K n) []) : C8.Cal P w K mg base 6 "best_of_rows" (sp_best_of_rows K) [] := by
  refine D.cal sc_best_of_rows (fun _ _ _ _ _ _ us hl => match us, hl with | [_], _ => rfl) (fun vs H Q E h => ?_) (fun f cdv A outer s H vs Q E hr h => ?_)
  · obtain ⟨a, n, m, rows, rfl, _⟩ := h
    rfl
  obtain ⟨a, n, m, rows, rfl, hG, g, hn, hm, hQ⟩ := h
  replace c_looking := c_looking m
  refine ⟨_, (pss_cons (ps_set (i := 1) sc_best_of_rows.nd rfl (Or.inr rfl) (pe_lc (own := [("_", 2)]) (g := (gName 2)) (tt := tYes) rfl sc_best_of_rows.nd (pi_range1 rfl B.range (pa_cons (pe_op op_shl pe_int (pe_ix ix_tup (pv 0) pe_int (fun _ _ => rfl))) pa_nil)) (blkOk_by (own := [("_", 2)]) (N := ["block", "counts", "_", "row", "ends", "count", "total", "gain", "breaker"]) (sc := defScope s_best_of_rows) (by decide +kernel)) (fun _ _ _ _ _ => (pg_name (i := 2) sc_best_of_rows.nd rfl (Or.inl rfl))) (fun _ _ _ _ _ => pts_nil) (fun _ _ _ _ _ => pe_int)))
    (pss_cons (ps_for PassesOwn.never rfl (pi_tup (pe_ix ix_tup (pv 0) pe_int (fun _ _ => rfl))) (pg_name (i := 3) sc_best_of_rows.nd rfl (Or.inl rfl)) (pss_one (ps_asg (pe_op op_add (pe_ix ix_list (pv 1) (C8.pe_c c_number_of hr (by omega) rfl (pa_cons (pv 3) pa_nil)) (fun _ _ => rfl)) pe_int) (pg_sub (pv 1) (C8.pe_c c_number_of hr (by omega) rfl (pa_cons (pv 3) pa_nil)) set_list))))
    (pss_cons (ps_setLc (i := 4) (own := [("count", 5)]) (g := (gName 5)) (tt := tYes) rfl sc_best_of_rows.nd rfl rfl (sw_true rfl rfl rfl (by decide +kernel)) (pi_list (pv 1)) (blkOk_by (own := [("count", 5)]) (N := ["block", "counts", "_", "row", "ends", "count", "total", "gain", "breaker"]) (sc := defScope s_best_of_rows) (by decide +kernel)) (fun _ _ _ _ _ => (pg_name (i := 5) sc_best_of_rows.nd rfl (Or.inl rfl))) (fun _ _ _ _ _ => pts_nil) (fun _ _ _ _ _ => (C8.pe_c c_told_apart hr (by omega) rfl (pa_cons (C8.pe_c c_fraction hr (by omega) rfl (pa_cons (pv 5) (pa_cons (pe_callB (show CallR _ (.builtin "len") (rLenK K) from call_len_seq) (by rfl) B.len PySem.boot_len (pa_cons (pe_ix (show IxR _ (rIxT K) from ix_tup) (pv 0) pe_int (fun _ _ => rfl)) pa_nil)) pa_nil))) (pa_cons (C8.pe_c c_fraction hr (by omega) rfl (pa_cons pe_int (pa_cons (pe_callB (show CallR _ (.builtin "len") (rLenK K) from call_len_seq) (by rfl) B.len PySem.boot_len (pa_cons (pv 1) pa_nil)) pa_nil))) pa_nil)))))
    (pss_cons (ps_set (i := 6) sc_best_of_rows.nd rfl (Or.inl rfl) (C8.pe_gc rfl G.g_NOUGHT))
    (pss_cons (ps_for PassesOwn.never rfl (pi_list (pv 4)) (pg_tup rfl (pgs_cons (pg_name (i := 7) sc_best_of_rows.nd rfl (Or.inl rfl)) (pgs_cons (pg_name (i := 8) sc_best_of_rows.nd rfl (Or.inl rfl)) pgs_nil))) (pss_one (ps_set (i := 6) sc_best_of_rows.nd rfl (Or.inl rfl) (C8.pe_c c_add hr (by omega) rfl (pa_cons (pv 6) (pa_cons (pv 7) pa_nil))))))
    (pss_one (ps_ret (pe_tup (pa_cons (pv 6) (pa_cons (C8.pe_c c_looking hr (by omega) rfl (pa_cons (pe_lc (own := [("gain", 7), ("breaker", 8)]) (g := (gTup K 2 (gCons (gName 7) (gCons (gName 8) gNil)))) (tt := tYes) rfl sc_best_of_rows.nd (pi_list (pv 4)) (blkOk_by (own := [("gain", 7), ("breaker", 8)]) (N := ["block", "counts", "_", "row", "ends", "count", "total", "gain", "breaker"]) (sc := defScope s_best_of_rows) (by decide +kernel)) (fun _ _ _ _ _ => (pg_tup rfl (pgs_cons (pg_name (i := 7) sc_best_of_rows.nd rfl (Or.inl rfl)) (pgs_cons (pg_name (i := 8) sc_best_of_rows.nd rfl (Or.inl rfl)) pgs_nil)))) (fun _ _ _ _ _ => pts_nil) (fun _ _ _ _ _ => (pv 8))) (pa_cons pe_int (pa_cons (pe_ix ix_tup (pv 0) pe_int (fun _ _ => rfl)) pa_nil)))) pa_nil)))))))))), ?_⟩
  obtain ⟨q, h1, h2⟩ := id hG
  obtain ⟨N, hN⟩ : ∃ N : Nat, N = 2 ^ m := ⟨_, rfl⟩
  have p16 : N ≤ 16 := by rw [hN]; exact Nat.pow_le_pow_right (n := 2) (by decide) hm
  have N0 : 0 < N := by rw [hN]; exact Nat.pow_pos (by decide)
  have Nd : N ∣ 55296 := by rw [hN]; exact Nat.dvd_trans (pow16 hm) (by decide)
  have rl0 : 0 < rows.length := by rw [g.len]; exact Nat.pow_pos (by decide)
  have rl16 : rows.length ≤ 16 := by rw [g.len]; exact Nat.pow_le_pow_right (n := 2) (by decide) hn
  have rld : rows.length ∣ 55296 := by rw [g.len]; exact Nat.dvd_trans (pow16 hn) (by decide)
  have sh : (1 : Int) * 2 ^ ((m : Int).toNat) = (N : Int) := by rw [hN]; exact shl1 m
  refine ⟨_, rfl, _, _, _, _, rfl, rfl, h1, at2 _ _ _ _, _, _, rfl, rfl, ⟨by omega, by omega, by decide⟩, (N : Int), congrArg (fun z => [V.int z]) sh, by omega, by omega, ?_⟩
  rw [Int.toNat_natCast]
  refine fun C hC => lcV K (n := N) wn_range hC (by omega) (fun _ => V.int 0) (fun i H' hi s W hW => hW _ (Same.refl _)) (fun H1 s1 hL => ?_)
  have hC0 : H1 C = some (.lst (cntV [] m N)) := hL
  have h1' := s1.tup h1
  refine ⟨_, rfl, _, _, _, _, rfl, rfl, h1', at3 _ _ _ _ _, q, rfl, ⟨_, s1.tup h2⟩, forW (J := Itt K q) (H1 := H) (wn_tup h2) (fun i σ H' => ∃ u : Option V, σ = [some (.ref a), some (.ref C), none, u, none, none, none, none, none] ∧ Same H H' ∧ H' C = some (.lst (cntV (rows.take i) m N))) ⟨none, rfl, s1, hC0⟩ (fun i σ H' ⟨_, _, e, _⟩ => e) ?_ ?_⟩
  · rintro i σ H' hi ⟨u, rfl, s2, hC2⟩
    have hi : i < rows.length := by simpa using hi
    rw [map_getD hi]
    have hri := g.row rows[i] (List.getElem_mem hi)
    have hlt : numOf rows[i] < N := by rw [hN, ← hri]; exact numOf_lt _
    have hat : (cntV (rows.take i) m N)[numOf rows[i]]? = some (.int ((rows.take i).count rows[i] : Nat)) := by
      unfold cntV
      rw [List.getElem?_map, List.getElem?_range hlt]
      show some (V.int (((rows.take i).count (bitsOf m (numOf rows[i])) : Nat) : Int)) = _
      rw [← hri, bitsOf_numOf]
    refine ⟨_, rfl, _, rfl, rows[i], rfl, by omega, C, _, _, _, rfl, rfl, .inl (.inl hC2), atI_nat hat, _, _, rfl, rfl, _, rfl, _, rfl, rows[i], rfl, by omega, C, _, _, numOf rows[i], rfl, rfl, hC2, ?_, ?_⟩
    · rw [show (cntV (rows.take i) m N).length = N by simp [cntV]]
      unfold ixN
      rw [if_pos (by omega), if_pos (by omega)]
      simp
    · refine ⟨some (vS rows[i]), rfl, L2.Same.mut s2 hC, ?_⟩
      rw [upd_same, List.take_succ_eq_append_getElem hi, hN]
      exact congrArg (fun z => some (HO.lst z)) (cntV_snoc hri)
  rintro σ H2 ⟨u3, rfl, s2, hC2⟩
  rw [List.length_map, List.take_length] at hC2
  have hlenC : (cntV rows m N).length = N := by simp [cntV]
  refine ⟨_, rfl, C, rfl, ⟨_, .inl (.inl hC2)⟩, fun D hD => lcN K (wn_list (.inl (.inl hC2))) hD (by rw [hlenC]; omega) (fun i y H' => ∃ p, y = .ref p ∧ EndAt K H' p (told1 (((rows.count (bitsOf m i) : Nat) : Rat) / ((rows.length : Nat) : Rat) - 1 / pw m))) (fun i y H' H'' t ⟨p, e, h⟩ => ⟨p, e, h.tm t⟩) ?_ ?_⟩
  · intro i H3 hi s3 W hW
    rw [hlenC] at hi
    have s03 := s2.trans s3
    have hC3 := s3 _ _ hC2
    have ei : (cntV rows m N).getD i .non = .int (rows.count (bitsOf m i) : Nat) := by unfold cntV; rw [range_getD hi]
    rw [ei]
    refine ⟨_, rfl, _, rfl, _, _, _, _, rfl, rfl, s03.tup h1, at3 _ _ _ _ _, q, _, rfl, .inr (s03.tup h2), ((rows.count (bitsOf m i) : Nat) : Int), rows.length, by rw [List.length_map]; rfl, rl0, by omega, fun p1 H4 s4 hp1 => ?_⟩
    refine ⟨_, rfl, C, _, rfl, .inl (.inl (.inl (s4 _ _ hC3))), (1 : Int), N, by rw [hlenC]; rfl, N0, by omega, fun p2 H5 s5 hp2 => ?_⟩
    refine ⟨p1, p2, _, _, rfl, hp1.tm s5.tm, hp2, Nat.lt_of_le_of_lt (frac_den_le _ rl0) (by omega), Nat.lt_of_le_of_lt (frac_den_le _ N0) (by omega), fun p H6 s6 hp => hW _ _ (s4.trans (s5.trans s6)) ⟨p, rfl, ?_⟩⟩
    rw [hN] at hp
    exact hp
  intro H3 ys s3 hL3 hyl hR3
  rw [hlenC] at hyl
  have hE : EndsAt K H3 (gEnds rows m) ys := by
    refine ⟨by rw [hyl]; unfold gEnds; rw [List.length_map, allBs_length, hN], fun i y qq e1 e2 => ?_⟩
    obtain ⟨p, e, hp⟩ := hR3 i y e1
    have hi : i < 2 ^ m := by rw [← hN, ← hyl]; exact (List.getElem?_eq_some_iff.mp e1).1
    unfold gEnds at e2
    rw [List.getElem?_map, allBs_get hi] at e2
    cases (Option.some.inj e2)
    exact ⟨p, e, hp⟩
  have hent : ∀ x ∈ gEnds rows m, Ent 55296 x.1 := fun x hx => by
    obtain ⟨v, _, rfl⟩ := List.mem_map.mp hx
    refine told1_ent (Ent.sub (Ent.frac rld rl0 ((rows.count v : Nat) : Int)) ?_)
    have := Ent.frac Nd N0 1
    rw [hN] at this
    exact this
  have s03 := s2.trans s3
  have glen : (gEnds rows m).length = N := by unfold gEnds; rw [List.length_map, allBs_length, hN]
  refine ⟨_, rfl, D, rfl, ⟨_, .inl (.inl hL3)⟩, forW (wn_list (.inl (.inl hL3))) (fun i σ H' => ∃ (tot : Addr) (u7 u8 : Option V), σ = [some (.ref a), some (.ref C), none, u3, some (.ref D), none, some (.ref tot), u7, u8] ∧ Same H3 H' ∧ FrAt K H' tot (sumR ((gEnds rows m).take i) (·.1))) ⟨He.ga K "NOUGHT", none, none, rfl, Same.refl _, G.t_NOUGHT _⟩ (fun i σ H' ⟨_, _, _, _, e, _⟩ => e) ?_ ?_⟩
  · rintro i σ H' hi ⟨tot, u7, u8, rfl, s4, htot⟩
    have hig : i < (gEnds rows m).length := by omega
    obtain ⟨p, ep, af, vb, hS, hfr, hbr⟩ := hE.2 i _ _ (List.getElem?_eq_getElem hi) (List.getElem?_eq_getElem hig)
    rw [List.getD_eq_getElem?_getD, List.getElem?_eq_getElem hi, Option.getD_some, ep]
    refine ⟨p, _, rfl, s4.tup hS, rfl, _, _, rfl, _, _, rfl, rfl, ?_⟩
    have e1 : Ent 55296 (sumR ((gEnds rows m).take i) (·.1)) := Ent.sum fun y hy => hent y (List.mem_of_mem_take hy)
    refine ⟨_, rfl, _, rfl, tot, af, _, _, rfl, htot, hfr.tm s4.tm, e1.small, (hent _ (List.getElem_mem hig)).small, fun p3 H4 s5 hp3 => ?_⟩
    refine ⟨p3, some (.ref af), some vb, rfl, s4.trans s5, ?_⟩
    rw [List.take_succ_eq_append_getElem hig, sumR_append, sumR_cons, sumR_nil]
    have : ((gEnds rows m)[i]).1 + 0 = ((gEnds rows m)[i]).1 := by grind
    rw [this]
    exact hp3
  rintro σ H4 ⟨tot, u7, u8, rfl, s4, htot⟩
  rw [hyl, List.take_of_length_le (by omega)] at htot
  have s04 := s03.trans s4
  refine ⟨_, rfl, _, rfl, D, rfl, ⟨_, .inl (.inl (s4 _ _ hL3))⟩, fun L hL => lcR K (wn_list (.inl (.inl (s4 _ _ hL3)))) hL (by omega) (fun i y H' => ∀ b, ((gEnds rows m).map (·.2))[i]? = some b → BrkAt K H' b y) (fun i y H' H'' t h b e => (h b e).tm t) ?_ ?_⟩
  · intro i H5 hi s5 W N' hW
    have hig : i < (gEnds rows m).length := by omega
    obtain ⟨p, ep, af, vb, hS, hfr, hbr⟩ := hE.2 i _ _ (List.getElem?_eq_getElem hi) (List.getElem?_eq_getElem hig)
    rw [List.getD_eq_getElem?_getD, List.getElem?_eq_getElem hi, Option.getD_some, ep]
    refine ⟨p, _, rfl, (s4.trans s5).tup hS, rfl, _, _, rfl, _, _, rfl, rfl, rfl, ?_⟩
    unfold tYes
    dsimp only
    rw [if_pos rfl]
    refine ⟨_, rfl, hW _ _ (Same.refl _) fun b e => ?_⟩
    rw [List.getElem?_map, List.getElem?_eq_getElem hig] at e
    cases (Option.some.inj e)
    exact hbr.tm (s4.trans s5).tm
  · intro H5 us s5 hL5 hul hR5
    have s05 := s04.trans s5
    have hbl : ((gEnds rows m).map (·.2)).length = 2 ^ m := by rw [List.length_map, glen, hN]
    refine ⟨_, rfl, _, _, _, _, rfl, rfl, s05.tup h1, at2 _ _ _ _, L, 0, 1, (gEnds rows m).map (·.2), us, rfl, hL5, BrksAt.of_get (by rw [hbl, ← hN]; omega) (fun i b v e1 e2 => hR5 i v e2 b e1), hbl, by omega, fun b hb => ?_, by omega, fun v H6 s6 hv => ?_⟩
    · obtain ⟨r, hr, rfl⟩ := List.mem_map.mp hb
      obtain ⟨v, _, rfl⟩ := List.mem_map.mp hr
      obtain ⟨_, t1, _, t2, _⟩ := told1_ok (((rows.count v : Nat) : Rat) / ((rows.length : Nat) : Rat) - 1 / pw m)
      exact ⟨t1, by rw [t2]; exact Nat.le_refl _⟩
    · refine ⟨(by show 2 ≤ sizeLine; decide), fun t ht => ?_⟩
      have st := Same.new (o := .tup [.ref tot, v]) ht
      exact hQ t _ (s05.trans (s6.trans st)) ⟨tot, v, .inl (.inl upd_same), htot.tm (s5.trans (s6.trans st)).tm, hv.tm st.tm⟩
end
end BB
set_option maxHeartbeats 4000000
namespace BB
open PySem PySem.Spec PyProof.Rows L2
/-- tuple(text) -/
theorem vals_signs {x : Bs} {vs : List Value} (hl : vs.length = x.length) (h : ∀ (j : Nat) (v : Value), vs[j]? = some v → SignAt (sOf x) j v) : Vals (x.map fun b => vS [b]) vs := by
  have key : ∀ (k : Nat) (y : Bs) (ws : List Value), y = x.drop k → ws = vs.drop k → ws.length = y.length → Vals (y.map fun b => vS [b]) ws := by
    intro k y
    induction y generalizing k with
    | nil =>
      intro ws _ _ e
      have : ws = [] := List.length_eq_zero_iff.mp e
      rw [this]; exact .nil
    | cons b y ih =>
      intro ws e1 e2 e
      cases ws with
      | nil => simp at e
      | cons w ws =>
        have hx : x[k]? = some b := by
          have := congrArg (fun l => l[0]?) e1
          simp at this
          rw [← this]
        have hv : vs[k]? = some w := by
          have := congrArg (fun l => l[0]?) e2
          simp at this
          rw [← this]
        obtain ⟨c, u, hc, rfl⟩ := h k w hv
        rw [sOf_at, hx] at hc
        have hc : c01 b = c := Option.some.inj hc
        refine .cons (show RelV (vS [b]) _ from ⟨u, ?_⟩) (ih (k + 1) ws ?_ ?_ (by simpa using e))
        · rw [← hc]; rfl
        · have := congrArg List.tail e1
          rw [List.tail_drop] at this
          exact this
        · have := congrArg List.tail e2
          rw [List.tail_drop] at this
          exact this
  exact key 0 x vs rfl rfl hl
theorem call_tuple_s {X : Cx} (hcalm : X.calm = true) : CallR X (.type "tuple") (fun xs H Q => ∃ z : Bs, xs = [vS z] ∧ z.length ≤ 1000 ∧ ∀ p, H p = none → Q (.ref p) (upd H p (.tup (z.map fun b => vS [b])))) := by
  intro pins s σ H xs us Q I r h
  obtain ⟨z, rfl, hz, q⟩ := h
  obtain ⟨u, rfl, rx⟩ := vals1 r
  obtain ⟨t, rfl⟩ := rx
  have hsz : (sOf z).cps.size = z.length := by simp [sOf, SX.S]
  refine call_tuple_str (I.ok.hd hcalm) (sOf z) t (fun h' tk acc kp hacc => ?_) (by rw [hsz]; exact Nat.le_trans hz (by decide))
  have I1 : Inv X pins σ H { s with heap := h' } := I.kept (t' := s.toks) kp
  have hlen : acc.toList.length = z.length := by rw [Array.length_toList, hacc.1, hsz]
  have I2 : Inv X pins σ (upd H h'.objs.size (.tup (z.map fun b => vS [b]))) { s with heap := h'.push { cls := .type "tuple", data := .seq acc }, toks := tk } :=
    I1.laid (t' := tk) (fun b o e => Heap.get?_push_of_some _ e) (Nat.le_refl _) (show ObjOk X.prog X.w _ _ _ (.tup (z.map fun b => vS [b])) from ⟨by rw [List.length_map]; exact szl (by omega), acc.toList, vals_signs hlen (fun j v e => hacc.2 j v (by rw [← Array.getElem?_toList]; exact e)), by
      rw [Array.toArray_toList]
      exact IsTup.new _ _⟩)
  exact ⟨.ref h'.objs.size, _, I2, rfl, q _ (I1.hok.fresh (Nat.le_refl _))⟩
end BB
set_option maxHeartbeats 4000000
namespace BB
open PySem PySem.Spec PyProof.Rows L2
theorem eqV_vS (x y : Bs) : eqV (vS x) (vS y) = decide (x = y) := by
  show (sOf x == sOf y) = _
  by_cases e : x = y
  · rw [e]; simp
  · rw [decide_eq_false e]
    exact beq_eq_false_iff_ne.mpr fun z => e (sOf_inj z)
theorem inV_vS (s : Bs) (xs : List Bs) : inV (vS s) (xs.map vS) = decide (s ∈ xs) := by
  unfold inV
  rw [List.any_map]
  rw [Bool.eq_iff_iff, List.any_eq_true, decide_eq_true_iff]
  constructor
  · rintro ⟨x, hx, e⟩
    have e : eqV (vS x) (vS s) = true := e
    rw [eqV_vS] at e
    rw [← of_decide_eq_true e]; exact hx
  · intro h
    exact ⟨s, h, by show eqV (vS s) (vS s) = true; rw [eqV_vS]; simp⟩
theorem pow_ent {a : Nat} (h : a ≤ 4) : 2 ^ a ∣ 55296 := Nat.dvd_trans (pow16 h) (by decide)
theorem m_asked {m a : Nat} (hm : m ≤ 2) (h : a ≤ 2) : m * a ≤ 4 := Nat.le_trans (Nat.mul_le_mul hm h) (by decide)
theorem gain_ent {n m : Nat} (hn : n ≤ 2) (hm : m ≤ 2) {keys : List Nat} {asked : List Bs} (h : asked.length ≤ 2) : Ent 55296 (gainAt n m keys asked) := by
  unfold gainAt
  refine Ent.sub (Ent.frac (pow_ent (by omega)) (Nat.pow_pos (by decide)) ((keys.length : Nat) : Int)) ?_
  exact Ent.frac (pow_ent (m_asked hm h)) (Nat.pow_pos (by decide)) 1
theorem bf_ent {F : Nat → Bs → Bs} {n l m : Nat} (hn : n ≤ 2) (hm : m ≤ 2) : ∀ (left : Nat) (keys : List Nat) (asked : List Bs), asked.length + left ≤ 2 → Ent 55296 (bf F n l m left keys asked).1
  | 0, keys, asked, h => by
    rw [bf]
    exact told1_ent (gain_ent hn hm (by omega))
  | left + 1, keys, asked, h => by
    by_cases hq : newsOf l asked = []
    · rw [bf_nil F n l m hq]
      exact told1_ent (gain_ent hn hm (by omega))
    · obtain ⟨s, hs, e, _⟩ := bf_some F n l m (left := left) (keys := keys) hq
      rw [e, cand_fst]
      exact Ent.sum fun v _ => bf_ent hn hm left _ _ (by rw [List.length_append, List.length_singleton]; omega)
theorem sub_ent {F : Nat → Bs → Bs} {n l m : Nat} (hn : n ≤ 2) (hm : m ≤ 2) {left : Nat} {keys : List Nat} {asked : List Bs} (s : Bs) (h : asked.length + (left + 1) ≤ 2) : ∀ x ∈ subOf F n l m left keys asked s, Ent 55296 x.1 := fun x hx => by
  obtain ⟨v, _, rfl⟩ := List.mem_map.mp hx
  exact bf_ent hn hm left _ _ (by rw [List.length_append, List.length_singleton]; omega)
/-- what the best so far is -/
def BestAt (K : PySem.W.Frag) (H : Hp) : Option (Rat × Brk) → V → Prop
  | none, v => v = .non
  | some r, v => ∃ p, v = .ref p ∧ EndAt K H p r
theorem BestAt.tm {K : PySem.W.Frag} {H H' : Hp} {o : Option (Rat × Brk)} {v : V} (t : Tm K H H') (h : BestAt K H o v) : BestAt K H' o v := by
  cases o with
  | none => exact h
  | some r => obtain ⟨p, e, h⟩ := h; exact ⟨p, e, h.tm t⟩
theorem BrksAt.snoc {K : PySem.W.Frag} {H : Hp} : ∀ {bs : List Brk} {vs : List V} {b : Brk} {v : V}, BrksAt K H bs vs → BrkAt K H b v → BrksAt K H (bs ++ [b]) (vs ++ [v])
  | [], vs, b, v, h, q => by cases (show vs = [] from h); exact ⟨v, [], rfl, q, rfl⟩
  | c :: bs, vs, b, v, ⟨w, ws, e, h1, h2⟩, q => by
    subst e
    exact ⟨w, ws ++ [v], rfl, h1, BrksAt.snoc h2 q⟩
/-- all but one thing -/
def hole (H : Hp) (a : Addr) : Hp := fun z => if z = a then none else H z
theorem hole_at (H : Hp) (a : Addr) : hole H a a = none := if_pos rfl
theorem hole_ne {H : Hp} {a z : Addr} (h : z ≠ a) : hole H a z = H z := if_neg h
theorem hole_same (H : Hp) (a : Addr) : Same (hole H a) H := fun z o e => by
  unfold hole at e
  split at e
  · cases e
  · exact e
theorem to_hole {H H' : Hp} {a : Addr} (s : Same H H') (h : H a = none) : Same H (hole H' a) := fun z o e => by
  rw [hole_ne (ne_of_none e h)]; exact s _ _ e
theorem tab_get {tb : List (List Bs)} {n l m : Nat} (g : TabOk tb n l m) {k : Nat} (hk : k < 2 ^ n) {s : Bs} (hs : s.length = l) : ∃ r, tb[k]? = some r ∧ r[numOf s]? = some (tabF tb m k s) := by
  have h1 : k < tb.length := by rw [g.len]; exact hk
  have hr := g.row tb[k] (List.getElem_mem h1)
  have h2 : numOf s < (tb[k]).length := by rw [hr.1, ← hs]; exact numOf_lt s
  refine ⟨tb[k], List.getElem?_eq_getElem h1, ?_⟩
  unfold tabF
  rw [List.getD_eq_getElem?_getD, List.getD_eq_getElem?_getD, List.getElem?_eq_getElem h1, Option.getD_some, List.getElem?_eq_getElem h2]; rfl
theorem sc_best_from : FnScope ["block", "keys", "asked", "left", "m", "news", "string", "number", "real", "best_found", "total", "breakers", "value", "fitting", "key", "gain", "breaker"] ["block", "keys", "asked", "left"] (defScope s_best_from) := ⟨rfl, rfl, rfl, by decide +kernel, rfl, by decide +kernel, by decide +kernel⟩
def sp_best_from (K : PySem.W.Frag) (left : Nat) : Sp := fun vs H Q _ => ∃ (a kl al : Addr) (n l m : Nat) (tb : List (List Bs)) (keys : List Nat) (asked : List Bs), vs = [.ref a, .ref kl, .ref al, .int (left : Nat)] ∧ FunAt K H a n l m tb ∧ TabOk tb n l m ∧ n ≤ 2 ∧ l ≤ 2 ∧ m ≤ 2 ∧ H kl = some (.lst (keys.map fun k : Nat => V.int k)) ∧ H al = some (.lst (asked.map vS)) ∧
  (∀ k ∈ keys, k < 2 ^ n) ∧ keys.length ≤ 4 ∧ asked.length + left ≤ 2 ∧ ∀ p H', Same H H' → EndAt K H' p (bf (tabF tb m) n l m left keys asked) → Q (.ref p) H'
section
variable {P : Program} {w : World} {K : PySem.W.Frag} {mg : Str → Option Value} {base : Heap}
theorem best_from_step (B : Bi mg) (G : Gi K mg) (D : Dfn K mg "best_from" s_best_from) (c_bits : C8.Cal P w K mg base 1 "bits" spBits []) (c_number_of : C8.Cal P w K mg base 1 "number_of" sp_number_of []) (c_fraction : C8.Cal P w K mg base 1 "fraction" (sp_fraction K) []) (c_add : C8.Cal P w K mg base 2 "add" (sp_add K) []) (c_less : C8.Cal P w K mg base 2 "less" (sp_less K) []) (c_told_apart : C8.Cal P w K mg base 3 "told_apart" (sp_told_apart K) []) (c_looking : ∀ n, C8.Cal P w K mg base (n + 1) "looking" (sp_looking K n) [])
    (left lv : Nat) (spb : Sp) (hsp : ∀ left', left = left' + 1 → spb = sp_best_from K left') (c_best_from : C8.Cal P w K mg base (lv + 4) "best_from" spb []) : C8.Cal P w K mg base (lv + 5) "best_from" (sp_best_from K left) [] := by
  refine D.cal sc_best_from (fun _ _ _ _ _ _ us hl => match us, hl with | [_, _, _, _], _ => rfl) (fun vs H Q E h => ?_) (fun f cdv A outer s H vs Q E hr h => ?_)
  · obtain ⟨a, kl, al, n, l, m, tb, keys, asked, rfl, _⟩ := h
    rfl
  obtain ⟨a, kl, al, n, l, m, tb, keys, asked, rfl, hF, g, hn, hl, hm, hkl, hal, hkeys, hk4, hask, hQ⟩ := h
  replace c_looking := c_looking m
  refine ⟨_, (pss_cons (ps_set (i := 4) sc_best_from.nd rfl (Or.inr rfl) (pe_ix ix_tup (pv 0) pe_int (fun _ _ => rfl)))
    (pss_cons (ps_setLc (i := 5) (own := [("string", 6)]) (g := (gName 6)) (tt := _) rfl sc_best_from.nd rfl rfl (sw_true rfl rfl rfl (by decide +kernel)) (pi_list (pe_lc (own := [("number", 7)]) (g := (gName 7)) (tt := tYes) rfl sc_best_from.nd (pi_range1 rfl B.range (pa_cons (pe_op op_shl pe_int (pe_ix ix_tup (pv 0) pe_int (fun _ _ => rfl))) pa_nil)) (blkOk_by (own := [("number", 7)]) (N := ["block", "keys", "asked", "left", "m", "news", "string", "number", "real", "best_found", "total", "breakers", "value", "fitting", "key", "gain", "breaker"]) (sc := defScope s_best_from) (by decide +kernel)) (fun _ _ _ _ _ => (pg_name (i := 7) sc_best_from.nd rfl (Or.inl rfl))) (fun _ _ _ _ _ => pts_nil) (fun _ _ _ _ _ => (C8.pe_c c_bits hr (by omega) rfl (pa_cons (pe_ix (show IxR _ (rIxT K) from ix_tup) (pv 0) pe_int (fun _ _ => rfl)) (pa_cons (pv 7) pa_nil)))))) (blkOk_by (own := [("string", 6)]) (N := ["block", "keys", "asked", "left", "m", "news", "string", "number", "real", "best_found", "total", "breakers", "value", "fitting", "key", "gain", "breaker"]) (sc := defScope s_best_from) (by decide +kernel)) (fun _ _ _ _ _ => (pg_name (i := 6) sc_best_from.nd rfl (Or.inl rfl))) (fun _ _ _ _ _ => (pts_one (pt_cmpR (show OpR _ (compareOp .NotIn) (rIn K true) from op_notIn_seq) (pv 6) (pv 2) (by rfl)))) (fun _ _ _ _ _ => (pv 6)))
    (pss_cons (ps_if (PW.pt (pw_or (pt_cmpR op_eq (pv 3) pe_int (nomark _)) (pw_or1 (pt_cmpR op_eq (pe_callB call_len_seq (by rfl) B.len PySem.boot_len (pa_cons (pv 5) pa_nil)) pe_int (nomark _))))) (pss_cons (ps_set (i := 8) sc_best_from.nd rfl (Or.inl rfl) (C8.pe_c c_fraction hr (by omega) rfl (pa_cons (pe_callB call_len_seq (by rfl) B.len PySem.boot_len (pa_cons (pv 1) pa_nil)) (pa_cons (pe_op op_shl pe_int (pe_ix ix_tup (pv 0) pe_int (fun _ _ => rfl))) pa_nil))))
      (pss_one (ps_ret (C8.pe_c c_told_apart hr (by omega) rfl (pa_cons (pv 8) (pa_cons (C8.pe_c c_fraction hr (by omega) rfl (pa_cons pe_int (pa_cons (pe_op op_shl pe_int (pe_op op_mul (pv 4) (pe_callB call_len_seq (by rfl) B.len PySem.boot_len (pa_cons (pv 2) pa_nil)))) pa_nil))) pa_nil)))))) pss_nil)
    (pss_cons (ps_set (i := 9) sc_best_from.nd rfl (Or.inl rfl) pe_non)
    (pss_cons (ps_for PassesOwn.never rfl (pi_list (pv 5)) (pg_name (i := 6) sc_best_from.nd rfl (Or.inr rfl)) (pss_cons (ps_set (i := 10) sc_best_from.nd rfl (Or.inl rfl) (C8.pe_gc rfl G.g_NOUGHT))
      (pss_cons (ps_set (i := 11) sc_best_from.nd rfl (Or.inl rfl) (pe_lst pa_nil))
      (pss_cons (ps_for PassesOwn.never rfl (pi_list (pe_lc (own := [("number", 7)]) (g := (gName 7)) (tt := tYes) rfl sc_best_from.nd (pi_range1 rfl B.range (pa_cons (pe_op op_shl pe_int (pv 4)) pa_nil)) (blkOk_by (own := [("number", 7)]) (N := ["block", "keys", "asked", "left", "m", "news", "string", "number", "real", "best_found", "total", "breakers", "value", "fitting", "key", "gain", "breaker"]) (sc := defScope s_best_from) (by decide +kernel)) (fun _ _ _ _ _ => (pg_name (i := 7) sc_best_from.nd rfl (Or.inl rfl))) (fun _ _ _ _ _ => pts_nil) (fun _ _ _ _ _ => (C8.pe_c c_bits hr (by omega) rfl (pa_cons (pv 4) (pa_cons (pv 7) pa_nil)))))) (pg_name (i := 12) sc_best_from.nd rfl (Or.inr rfl)) (pss_cons (ps_setLc (i := 13) (own := [("key", 14)]) (g := (gName 14)) (tt := _) rfl sc_best_from.nd rfl rfl (sw_true rfl rfl rfl (by decide +kernel)) (pi_list (pv 1)) (blkOk_by (own := [("key", 14)]) (N := ["block", "keys", "asked", "left", "m", "news", "string", "number", "real", "best_found", "total", "breakers", "value", "fitting", "key", "gain", "breaker"]) (sc := defScope s_best_from) (by decide +kernel)) (fun _ _ _ _ _ => (pg_name (i := 14) sc_best_from.nd rfl (Or.inl rfl))) (fun _ _ _ _ _ => (pts_one (pt_cmpR op_eq (pe_ix (show IxR _ (rIxT K) from ix_tup) (pe_ix (show IxR _ (rIxT K) from ix_tup) (pe_ix (show IxR _ (rIxT K) from ix_tup) (pv 0) pe_int (fun _ _ => rfl)) (pv 14) (fun _ _ => rfl)) (C8.pe_c c_number_of hr (by omega) rfl (pa_cons (pv 6) pa_nil)) (fun _ _ => rfl)) (pv 12) (nomark _)))) (fun _ _ _ _ _ => (pv 14)))
        (pss_cons (ps_asg (C8.pe_c c_best_from hr (by omega) rfl (pa_cons (pv 0) (pa_cons (pv 13) (pa_cons (pe_op op_cat (pv 2) (pe_lst (pa_cons (pv 6) pa_nil))) (pa_cons (pe_op op_sub (pv 3) pe_int) pa_nil))))) (pg_tup rfl (pgs_cons (pg_name (i := 15) sc_best_from.nd rfl (Or.inl rfl)) (pgs_cons (pg_name (i := 16) sc_best_from.nd rfl (Or.inl rfl)) pgs_nil))))
        (pss_cons (ps_set (i := 10) sc_best_from.nd rfl (Or.inl rfl) (C8.pe_c c_add hr (by omega) rfl (pa_cons (pv 10) (pa_cons (pv 15) pa_nil))))
        (pss_one (ps_expr (pe_bm PySem.F.plainAttrs_list PySem.F.slot_list_append PySem.F.type_list_append mt_append (pv 11) (pa_cons (pv 16) pa_nil))))))))
      (pss_one (ps_if (PW.pt (pw_or (pt_cmpR op_isN (pv 9) pe_non (nomark _)) (pw_or1 (pt_cmpR op_gt (pe_ix ix_tup (C8.pe_c c_less hr (by omega) rfl (pa_cons (pv 10) (pa_cons (pe_ix ix_tup (pv 9) pe_int (fun _ _ => rfl)) pa_nil))) pe_int (fun _ _ => rfl)) pe_int (nomark _))))) (pss_one (ps_set (i := 9) sc_best_from.nd rfl (Or.inl rfl) (pe_tup (pa_cons (pv 10) (pa_cons (pe_tup (pa_cons pe_str (pa_cons (pe_callTy (T := "tuple") (call_tuple_s rfl) (by rfl) B.tuple (by decide +kernel) (pa_cons (pv 6) pa_nil)) (pa_cons (C8.pe_c c_looking hr (by omega) rfl (pa_cons (pv 11) (pa_cons (pe_op op_mul (pv 4) (pe_callB call_len_seq (by rfl) B.len PySem.boot_len (pa_cons (pv 2) pa_nil))) (pa_cons (pv 4) pa_nil)))) pa_nil)))) pa_nil))))) pss_nil))))))
    (pss_one (ps_ret (pv 9)))))))), ?_⟩
  obtain ⟨q, qs, h1, h2, h3⟩ := id hF
  refine ⟨_, rfl, _, _, _, _, rfl, rfl, h1, at3 _ _ _ _ _, ?_⟩
  obtain ⟨L, hL⟩ : ∃ L : Nat, L = 2 ^ l := ⟨_, rfl⟩
  have L4 : L ≤ 4 := by rw [hL]; exact Nat.pow_le_pow_right (n := 2) (by decide) hl
  have sh : (1 : Int) * 2 ^ ((l : Int).toNat) = (L : Int) := by rw [hL]; exact shl1 l
  refine ⟨_, rfl, _, _, _, _, rfl, rfl, h1, at2 _ _ _ _, _, _, rfl, rfl, ⟨by omega, by omega, by decide⟩, (L : Int), congrArg (fun z => [V.int z]) sh, by omega, by omega, ?_⟩
  rw [Int.toNat_natCast]
  refine fun Da hDa => lcV K (n := L) wn_range hDa (by omega) (fun i => vS (bitsOf l i)) (fun i H' hi s W hW => ?_) (fun H1 s1 hL1 => ?_)
  · refine ⟨_, rfl, _, _, _, _, rfl, rfl, s.tup h1, at2 _ _ _ _, _, rfl, l, i, rfl, by omega, fun H2 s2 => hW _ s2⟩
  have elist : (List.range L).map (fun i => vS (bitsOf l i)) = (allBs l).map vS := by unfold allBs; rw [hL, List.map_map]; rfl
  rw [elist] at hL1
  refine ⟨Da, rfl, ⟨_, .inl (.inl hL1)⟩, fun N hN => lcF (wn_list (.inl (.inl hL1))) hN (by rw [List.length_map, allBs_length, ← hL]; omega) (by show 6 < 17; decide) (fun v => !inV v (asked.map vS)) (fun x H' hx s W hW => ?_) (fun H2 s2 hN2 => ?_)⟩
  · obtain ⟨b, _, rfl⟩ := List.mem_map.mp hx
    refine ⟨_, rfl, _, rfl, al, _, rfl, .inl (.inl (.inl ((s1.trans s) _ _ hal))), rfl, ?_, _, rfl, hW _ (Same.refl _)⟩
    rw [List.all_map]; exact List.all_eq_true.mpr fun z _ => rfl
  have hnews : ((allBs l).map vS).filter (fun v => !inV v (asked.map vS)) = (newsOf l asked).map vS := by
    unfold newsOf
    rw [List.filter_map]
    congr 1
    refine List.filter_congr fun x _ => ?_
    show (!inV (vS x) (asked.map vS)) = _
    rw [inV_vS]; simp
  rw [hnews] at hN2
  have s02 := s1.trans s2
  have hal2 := s02 _ _ hal
  have hkl2 := s02 _ _ hkl
  have h12 := s02.tup h1
  obtain ⟨nn, hnn⟩ : ∃ nn : Nat, nn = 2 ^ n := ⟨_, rfl⟩
  have n4 : nn ≤ 4 := by rw [hnn]; exact Nat.pow_le_pow_right (n := 2) (by decide) hn
  have n0 : 0 < nn := by rw [hnn]; exact Nat.pow_pos (by decide)
  have shn : (1 : Int) * 2 ^ ((n : Int).toNat) = (nn : Int) := by rw [hnn]; exact shl1 n
  have ma := m_asked hm (show asked.length ≤ 2 by omega)
  obtain ⟨aa, haa⟩ : ∃ aa : Nat, aa = 2 ^ (m * asked.length) := ⟨_, rfl⟩
  have a16 : aa ≤ 16 := by rw [haa]; exact Nat.pow_le_pow_right (n := 2) (by decide) ma
  have a0 : 0 < aa := by rw [haa]; exact Nat.pow_pos (by decide)
  have sha : (1 : Int) * 2 ^ (((m : Int) * ((asked.map vS).length : Nat)).toNat) = (aa : Int) := by
    rw [List.length_map, ← Int.natCast_mul, haa]; exact shl1 _
  have hmi : (m : Int) * ((asked.map vS).length : Nat) = ((m * asked.length : Nat) : Int) := by rw [List.length_map, Int.natCast_mul]
  refine ⟨_, rfl, rfl, _, rfl, ?_⟩
  refine ite2 (fun c => ?_) (fun c => ?_)
  · have c := V.int.inj (of_decide_eq_true c)
    have e0 : left = 0 := by omega
    have leaf : bf (tabF tb m) n l m left keys asked = told1 (gainAt n m keys asked) := by rw [e0, bf]
    refine ⟨_, rfl, kl, _, rfl, .inl (.inl (.inl hkl2)), _, rfl, _, _, _, _, rfl, rfl, h12, at1 _ _ _, _, _, rfl, rfl, ⟨by omega, by omega, by decide⟩, ((keys.length : Nat) : Int), nn, ?_, n0, by omega, fun p1 H3 s3 hp1 => ?_⟩
    · rw [List.length_map]
      exact congrArg (fun z => [V.int (keys.length : Nat), V.int z]) shn
    refine ⟨_, rfl, _, rfl, _, rfl, al, _, rfl, .inl (.inl (.inl (s3 _ _ hal2))), _, _, rfl, rfl, .inl ⟨by omega, by omega⟩, _, _, rfl, rfl, ⟨by omega, by omega, by decide⟩, (1 : Int), aa, congrArg (fun z => [V.int 1, V.int z]) sha, a0, by omega, fun p2 H4 s4 hp2 => ?_⟩
    refine ⟨p1, p2, _, _, rfl, hp1.tm s4.tm, hp2, Nat.lt_of_le_of_lt (frac_den_le _ n0) (by omega), Nat.lt_of_le_of_lt (frac_den_le _ a0) (by omega), fun p H5 s5 hp => hQ p H5 (s02.trans (s3.trans (s4.trans s5))) ?_⟩
    rw [leaf]
    rw [hnn, haa] at hp
    exact hp
  have hleft : left ≠ 0 := fun z => of_decide_eq_false (Bool.eq_false_iff.mpr c) (by rw [z]; rfl)
  refine ⟨_, rfl, N, _, rfl, .inl (.inl (.inl hN2)), rfl, _, rfl, ?_⟩
  refine ite2 (fun c2 => ?_) (fun c2 => ?_)
  · have c2 := V.int.inj (of_decide_eq_true c2)
    rw [List.length_map] at c2
    have e0 : newsOf l asked = [] := List.length_eq_zero_iff.mp (by omega)
    have leaf : bf (tabF tb m) n l m left keys asked = told1 (gainAt n m keys asked) := bf_nil _ _ _ _ e0
    refine ⟨_, rfl, kl, _, rfl, .inl (.inl (.inl hkl2)), _, rfl, _, _, _, _, rfl, rfl, h12, at1 _ _ _, _, _, rfl, rfl, ⟨by omega, by omega, by decide⟩, ((keys.length : Nat) : Int), nn, ?_, n0, by omega, fun p1 H3 s3 hp1 => ?_⟩
    · rw [List.length_map]
      exact congrArg (fun z => [V.int (keys.length : Nat), V.int z]) shn
    refine ⟨_, rfl, _, rfl, _, rfl, al, _, rfl, .inl (.inl (.inl (s3 _ _ hal2))), _, _, rfl, rfl, .inl ⟨by omega, by omega⟩, _, _, rfl, rfl, ⟨by omega, by omega, by decide⟩, (1 : Int), aa, congrArg (fun z => [V.int 1, V.int z]) sha, a0, by omega, fun p2 H4 s4 hp2 => ?_⟩
    refine ⟨p1, p2, _, _, rfl, hp1.tm s4.tm, hp2, Nat.lt_of_le_of_lt (frac_den_le _ n0) (by omega), Nat.lt_of_le_of_lt (frac_den_le _ a0) (by omega), fun p H5 s5 hp => hQ p H5 (s02.trans (s3.trans (s4.trans s5))) ?_⟩
    rw [leaf]
    rw [hnn, haa] at hp
    exact hp
  have hne : newsOf l asked ≠ [] := fun z => of_decide_eq_false (Bool.eq_false_iff.mpr c2) (by rw [z]; rfl)
  clear c c2
  obtain ⟨left', rfl⟩ : ∃ left', left = left' + 1 := ⟨left - 1, by omega⟩
  have hspb := hsp left' rfl
  subst hspb
  obtain ⟨M, hM⟩ : ∃ M : Nat, M = 2 ^ m := ⟨_, rfl⟩
  have M4 : M ≤ 4 := by rw [hM]; exact Nat.pow_le_pow_right (n := 2) (by decide) hm
  have shm : (1 : Int) * 2 ^ ((m : Int).toNat) = (M : Int) := by rw [hM]; exact shl1 m
  refine ⟨_, rfl, N, rfl, ⟨_, .inl (.inl hN2)⟩, forW (wn_list (.inl (.inl hN2))) (fun i σ H' => ∃ (bv : V) (u6 u10 u11 u12 u13 u15 u16 : Option V), σ = [some (.ref a), some (.ref kl), some (.ref al), some (.int ((left' + 1 : Nat) : Int)), some (.int m), some (.ref N), u6, none, none, some bv, u10, u11, u12, u13, none, u15, u16] ∧ Same H2 H' ∧ BestAt K H' (List.foldl better none (((newsOf l asked).take i).map (candOf (tabF tb m) n l m left' keys asked))) bv) ⟨.non, none, none, none, none, none, none, none, rfl, Same.refl _, rfl⟩ (fun i σ H' ⟨_, _, _, _, _, _, _, _, _, e, _⟩ => e) ?_ ?_⟩
  · rintro i σ H' hi ⟨bv, u6, u10, u11, u12, u13, u15, u16, rfl, s3, hbv⟩
    have hi : i < (newsOf l asked).length := by simpa using hi
    rw [map_getD hi]
    have hsm := news_mem.mp (List.getElem_mem hi)
    have htk := List.take_succ_eq_append_getElem hi
    generalize (newsOf l asked)[i] = str at hsm htk
    have hsub := sub_ent (F := tabF tb m) (l := l) (keys := keys) hn hm str hask
    have hsublen : (subOf (tabF tb m) n l m left' keys asked str).length = M := by unfold subOf; rw [List.length_map, allBs_length, hM]
    refine ⟨Nat.zero_le _, fun Bl hBl => ?_⟩
    have sB := Same.new (o := .lst []) hBl
    have sHB := s3.trans sB
    refine ⟨_, rfl, _, _, rfl, rfl, ⟨by omega, by omega, by decide⟩, (M : Int), congrArg (fun z => [V.int z]) shm, by omega, by omega, ?_⟩
    rw [Int.toNat_natCast]
    refine fun Dv hDv => lcV K (n := M) wn_range hDv (by omega) (fun i => vS (bitsOf m i)) (fun j H4 hj s4 W hW => ?_) (fun H4 s4 hL4 => ?_)
    · exact ⟨_, rfl, _, rfl, m, j, rfl, by omega, fun H5 s5 => hW _ s5⟩
    have nBD : Dv ≠ Bl := fun e => by rw [e, upd_same] at hDv; cases hDv
    have hB4 : H4 Bl = some (.lst []) := s4 _ _ upd_same
    have hx := hole_at H4 Bl
    have sx := hole_same H4 Bl
    have s3x : Same H' (hole H4 Bl) := to_hole (sB.trans s4) hBl
    have hLx : hole H4 Bl Dv = some (.lst ((List.range M).map fun i => vS (bitsOf m i))) := by rw [hole_ne nBD]; exact hL4
    generalize hole H4 Bl = Hx at hx sx s3x hLx
    refine ⟨Dv, rfl, ⟨_, .inl (.inl hL4)⟩, forW (H1 := Hx) (wn_list (.inl (.inl hLx))) (fun j σ H' => ∃ (tot : Addr) (us : List V) (u12 u13 u15 u16 : Option V), σ = [some (.ref a), some (.ref kl), some (.ref al), some (.int ((left' + 1 : Nat) : Int)), some (.int m), some (.ref N), some (vS str), none, none, some bv, some (.ref tot), some (.ref Bl), u12, u13, none, u15, u16] ∧ Same Hx H' ∧ H' Bl = some (.lst us) ∧ BrksAt K H' (((subOf (tabF tb m) n l m left' keys asked str).take j).map (·.2)) us ∧ FrAt K H' tot (sumR ((subOf (tabF tb m) n l m left' keys asked str).take j) (·.1))) ⟨He.ga K "NOUGHT", [], u12, u13, u15, u16, rfl, sx, hB4, rfl, G.t_NOUGHT _⟩ (fun i σ H' ⟨_, _, _, _, _, _, _, e, _⟩ => e) ?_ ?_⟩
    · rintro j σ H5 hj ⟨tot, us, u12, u13, u15, u16, rfl, s5, hB5, hbs5, htot5⟩
      have hj : j < M := by simpa using hj
      rw [range_getD hj]
      have hsubj : (subOf (tabF tb m) n l m left' keys asked str)[j]? = some (bf (tabF tb m) n l m left' (keys.filter fun k => decide (tabF tb m k str = bitsOf m j)) (asked ++ [str])) := by
        unfold subOf
        rw [List.getElem?_map, allBs_get (by rw [← hM]; exact hj)]; rfl
      have hjl : j < (subOf (tabF tb m) n l m left' keys asked str).length := by rw [hsublen]; exact hj
      have htk2 := List.take_succ_eq_append_getElem hjl
      have hsj : (subOf (tabF tb m) n l m left' keys asked str)[j] = bf (tabF tb m) n l m left' (keys.filter fun k => decide (tabF tb m k str = bitsOf m j)) (asked ++ [str]) := by
        rw [List.getElem?_eq_getElem hjl] at hsubj
        exact Option.some.inj hsubj
      have s25 := s02.trans (s3.trans (s3x.trans s5))
      have hF5 := hF.tm s25.tm
      refine ⟨_, rfl, kl, rfl, ⟨_, .inl (.inl (s25 _ _ hkl))⟩, fun Ft hFt => lcF (wn_list (.inl (.inl (s25 _ _ hkl)))) hFt (by rw [List.length_map]; omega) (by show 14 < 17; decide) (fun v => match v with | .int k => decide (tabF tb m k.toNat str = bitsOf m j) | _ => false) (fun x H6 hx s6 W hW => ?_) (fun H6 s6 hFt6 => ?_)⟩
      · obtain ⟨k, hk, rfl⟩ := List.mem_map.mp hx
        have s06 := s25.trans s6
        have hkn := hkeys k hk
        obtain ⟨row, hr1, hr2⟩ := tab_get g hkn hsm.1
        have hkq : k < qs.length := by rw [h3.1, g.len]; exact hkn
        have hrow := h3.2 k _ row (List.getElem?_eq_getElem hkq) hr1
        refine ⟨_, rfl, _, _, _, _, rfl, rfl, s06.tup h1, at4 _ _ _ _ _ _, _, rfl, q, _, _, .ref qs[k], rfl, rfl, s06.tup h2, atI_nat (by rw [List.getElem?_map, List.getElem?_eq_getElem hkq]; rfl), _, rfl, str, rfl, by rw [hsm.1]; omega, qs[k], _, _, _, rfl, rfl, s06.tup hrow, atI_nat (by rw [List.getElem?_map, hr2]; rfl), _, rfl, rfl, _, rfl, ?_⟩
        rw [dec_vS]
        exact hW _ (Same.refl _)
      have efilt : (keys.map fun k : Nat => V.int k).filter (fun v => match v with | .int k => decide (tabF tb m k.toNat str = bitsOf m j) | _ => false) = (keys.filter fun k => decide (tabF tb m k str = bitsOf m j)).map fun k : Nat => V.int k := by
        rw [List.filter_map]; rfl
      rw [efilt] at hFt6
      have s26 := s25.trans s6
      have hal6 := s26 _ _ hal
      refine ⟨_, rfl, _, rfl, _, rfl, _, rfl, (by show 1 ≤ sizeLine; decide), fun e he => ?_⟩
      have se := Same.new (o := .lst [vS str]) he
      refine ⟨al, e, _, _, rfl, rfl, se _ _ hal6, upd_same, szl (by simp; omega), fun qa hqa => ?_⟩
      have sq := Same.new (o := .lst (asked.map vS ++ [vS str])) hqa
      have s28 := s26.trans (se.trans sq)
      refine ⟨_, rfl, _, _, rfl, rfl, a, Ft, qa, n, l, m, tb, keys.filter fun k => decide (tabF tb m k str = bitsOf m j), asked ++ [str], ?_, hF.tm s28.tm, g, hn, hl, hm, (se.trans sq) _ _ hFt6, by rw [upd_same, List.map_append]; rfl, fun k hk => hkeys k (List.mem_filter.mp hk).1, Nat.le_trans (List.length_filter_le _ _) hk4, by rw [List.length_append, List.length_singleton]; omega, fun p H8 s8 hp => ?_⟩
      · show [V.ref a, V.ref Ft, V.ref qa, V.int (((left' + 1 : Nat) : Int) - 1)] = _
        rw [show ((left' + 1 : Nat) : Int) - 1 = (left' : Int) by omega]
      rw [← hsj] at hp
      obtain ⟨af, vb, hS, hfr, hbr⟩ := hp
      refine ⟨p, _, rfl, hS, rfl, _, _, rfl, _, _, rfl, rfl, ?_⟩
      have s58 := (s6.trans (se.trans sq)).trans s8
      have e1 : Ent 55296 (sumR ((subOf (tabF tb m) n l m left' keys asked str).take j) (·.1)) := Ent.sum fun y hy => hsub y (List.mem_of_mem_take hy)
      refine ⟨_, rfl, _, rfl, tot, af, _, _, rfl, htot5.tm s58.tm, hfr, e1.small, (hsub _ (List.getElem_mem hjl)).small, fun p3 H9 s9 hp3 => ?_⟩
      have s59 := s58.trans s9
      have hB9 := s59 _ _ hB5
      have hul := hbs5.get.1
      refine ⟨_, rfl, .inl ⟨rfl, _, .inl (.inl hB9)⟩, _, rfl, Bl, us, _, rfl, rfl, hB9, szlt (by rw [← hul, List.length_map, List.length_take]; omega), ?_⟩
      have tmB : Tm K H9 (upd H9 Bl (.lst (us ++ [vb]))) := Tm.lst hB9
      refine ⟨p3, us ++ [vb], some (vS (bitsOf m j)), some (.ref Ft), some (.ref af), some vb, rfl, L2.Same.mut (s5.trans s59) hx, upd_same, ?_, ?_⟩
      · rw [htk2, List.map_append]
        exact ((hbs5.tm s59.tm).tm tmB).snoc ((hbr.tm s9.tm).tm tmB)
      · rw [htk2, sumR_append, sumR_cons, sumR_nil]
        have : ((subOf (tabF tb m) n l m left' keys asked str)[j]).1 + 0 = ((subOf (tabF tb m) n l m left' keys asked str)[j]).1 := by grind
        rw [this]
        exact hp3.tm tmB
    · rintro σ H5 ⟨tot, us, u12, u13, u15, u16, rfl, s5, hB5, hbs5, htot5⟩
      rw [List.length_map, List.length_range, List.take_of_length_le (by omega)] at hbs5
      rw [List.length_map, List.length_range, List.take_of_length_le (by omega)] at htot5
      have s25 := s02.trans (s3.trans (s3x.trans s5))
      have hsub2 : ∀ b ∈ (subOf (tabF tb m) n l m left' keys asked str).map (·.2), b.td = 0 ∧ b.depth ≤ 1 + 3 * left' := fun b hb => by
        obtain ⟨r, hr, rfl⟩ := List.mem_map.mp hb
        obtain ⟨v, _, rfl⟩ := List.mem_map.mp hr
        obtain ⟨_, t1, _, t2, _⟩ := bf_ok (F := tabF tb m) (n := n) hl hm left' (keys.filter fun k => decide (tabF tb m k str = v)) (asked ++ [str]) (by rw [List.length_append, List.length_singleton]; omega)
        exact ⟨t1, t2⟩
      have hnext0 : List.foldl better none (((newsOf l asked).take (i + 1)).map (candOf (tabF tb m) n l m left' keys asked)) = better (List.foldl better none (((newsOf l asked).take i).map (candOf (tabF tb m) n l m left' keys asked))) (candOf (tabF tb m) n l m left' keys asked str) := by
        rw [htk, List.map_append, List.foldl_append]; rfl
      have hmem : ∀ r, (List.foldl better none (((newsOf l asked).take i).map (candOf (tabF tb m) n l m left' keys asked))) = some r → Ent 55296 r.1 := fun r hr => by
        by_cases hcs : ((newsOf l asked).take i).map (candOf (tabF tb m) n l m left' keys asked) = []
        · rw [hcs] at hr; cases hr
        · obtain ⟨r', h1, h2, _⟩ := foldl_better _ none (fun _ => hcs)
          rw [hr] at h1
          cases (Option.some.inj h1)
          rcases h2 with h2 | h2
          · obtain ⟨s', _, rfl⟩ := List.mem_map.mp h2
            exact Ent.sum fun y hy => sub_ent hn hm s' hask y hy
          · cases h2
      have htotE : Ent 55296 (sumR (subOf (tabF tb m) n l m left' keys asked str) (·.1)) := Ent.sum hsub
      cases ho : (List.foldl better none (((newsOf l asked).take i).map (candOf (tabF tb m) n l m left' keys asked))) with
      | none =>
        rw [ho] at hbv hnext0
        have ebv : bv = .non := hbv
        subst ebv
        have hnext : List.foldl better none (((newsOf l asked).take (i + 1)).map (candOf (tabF tb m) n l m left' keys asked)) = some (candOf (tabF tb m) n l m left' keys asked str) := hnext0
        refine ⟨_, rfl, rfl, _, rfl, ?_⟩
        rw [show decide (V.non = V.non) = true by decide]
        refine iteT ?_
        refine ⟨_, rfl, _, rfl, str, rfl, by rw [hsm.1]; omega, fun tp htp => ?_⟩
        have stp := Same.new (o := .tup (str.map fun b => vS [b])) htp
        have sc1 := (Same.refl H5).trans stp
        refine ⟨_, rfl, _, rfl, _, rfl, al, _, rfl, .inl (.inl (.inl ((s25.trans sc1) _ _ hal))), _, _, rfl, rfl, .inl ⟨by omega, by omega⟩, _, rfl, Bl, m * asked.length, 1 + 3 * left', (subOf (tabF tb m) n l m left' keys asked str).map (·.2), us, ?_, sc1 _ _ hB5, hbs5.tm sc1.tm, by rw [List.length_map, hsublen, hM], by omega, hsub2, by omega, fun v H7 s7 hv => ?_⟩
        · show [V.ref Bl, V.int ((m : Int) * ((asked.map vS).length : Nat)), V.int m] = _
          rw [hmi]
        refine ⟨(by show 3 ≤ sizeLine; decide), fun ta hta => ⟨(by show 2 ≤ sizeLine; decide), fun t2 ht2 => ?_⟩⟩
        have sta := Same.new (o := .tup [.str "ask", .ref tp, v]) hta
        have st2 := Same.new (o := .tup [.ref tot, .ref ta]) ht2
        have sc2 := sc1.trans (s7.trans (sta.trans st2))
        refine ⟨.ref t2, some (vS str), some (.ref tot), some (.ref Bl), u12, u13, u15, u16, rfl, s3.trans ((s3x.trans s5).trans sc2), ?_⟩
        rw [hnext]
        refine ⟨t2, rfl, tot, .ref ta, .inl (.inl upd_same), htot5.tm sc2.tm, ta, tp, v, rfl, st2.tm _ _ (.inl (.inl upd_same)), ?_, hv.tm (sta.trans st2).tm⟩
        rw [List.map_map]
        exact (s7.trans (sta.trans st2)).tm _ _ (.inl (.inl upd_same))
      | some r =>
        rw [ho] at hbv hnext0
        have hrE := hmem r ho
        obtain ⟨pb, rfl, b0, v0, hSb, hfb, hbb⟩ := hbv
        refine ⟨_, rfl, rfl, _, rfl, ?_⟩
        rw [show decide (V.ref pb = V.non) = false by simp]
        refine iteF ?_
        have s35 := s3x.trans s5
        refine ⟨_, rfl, _, rfl, _, _, _, _, rfl, rfl, s35.tup hSb, at0 _ _, tot, b0, _, _, rfl, htot5, hfb.tm s35.tm, htotE.small, hrE.small, fun pd H6 s6 hd => ?_⟩
        refine ⟨_, _, _, _, rfl, rfl, hd, at0 _ _, _, _, rfl, rfl, _, rfl, ?_⟩
        refine ite2 (fun c => ?_) (fun c => ?_)
        · have c := (rnum_pos _).mp (of_decide_eq_true c)
          have hnext : List.foldl better none (((newsOf l asked).take (i + 1)).map (candOf (tabF tb m) n l m left' keys asked)) = some (candOf (tabF tb m) n l m left' keys asked str) := by
            rw [hnext0]; exact if_pos c
          refine ⟨_, rfl, _, rfl, str, rfl, by rw [hsm.1]; omega, fun tp htp => ?_⟩
          have stp := Same.new (o := .tup (str.map fun b => vS [b])) htp
          have sc1 := s6.trans stp
          refine ⟨_, rfl, _, rfl, _, rfl, al, _, rfl, .inl (.inl (.inl ((s25.trans sc1) _ _ hal))), _, _, rfl, rfl, .inl ⟨by omega, by omega⟩, _, rfl, Bl, m * asked.length, 1 + 3 * left', (subOf (tabF tb m) n l m left' keys asked str).map (·.2), us, ?_, sc1 _ _ hB5, hbs5.tm sc1.tm, by rw [List.length_map, hsublen, hM], by omega, hsub2, by omega, fun v H7 s7 hv => ?_⟩
          · show [V.ref Bl, V.int ((m : Int) * ((asked.map vS).length : Nat)), V.int m] = _
            rw [hmi]
          refine ⟨(by show 3 ≤ sizeLine; decide), fun ta hta => ⟨(by show 2 ≤ sizeLine; decide), fun t2 ht2 => ?_⟩⟩
          have sta := Same.new (o := .tup [.str "ask", .ref tp, v]) hta
          have st2 := Same.new (o := .tup [.ref tot, .ref ta]) ht2
          have sc2 := sc1.trans (s7.trans (sta.trans st2))
          refine ⟨.ref t2, some (vS str), some (.ref tot), some (.ref Bl), u12, u13, u15, u16, rfl, s3.trans ((s3x.trans s5).trans sc2), ?_⟩
          rw [hnext]
          refine ⟨t2, rfl, tot, .ref ta, .inl (.inl upd_same), htot5.tm sc2.tm, ta, tp, v, rfl, st2.tm _ _ (.inl (.inl upd_same)), ?_, hv.tm (sta.trans st2).tm⟩
          rw [List.map_map]
          exact (s7.trans (sta.trans st2)).tm _ _ (.inl (.inl upd_same))
        · have c : ¬ _ := fun z => of_decide_eq_false (Bool.eq_false_iff.mpr c) ((rnum_pos _).mpr z)
          have hnext : List.foldl better none (((newsOf l asked).take (i + 1)).map (candOf (tabF tb m) n l m left' keys asked)) = some r := by
            rw [hnext0]; exact if_neg c
          refine ⟨.ref pb, some (vS str), some (.ref tot), some (.ref Bl), u12, u13, u15, u16, rfl, s3.trans (s35.trans s6), ?_⟩
          rw [hnext]
          exact ⟨pb, rfl, b0, v0, (s35.trans s6).tup hSb, hfb.tm (s35.trans s6).tm, hbb.tm (s35.trans s6).tm⟩
  · rintro σ H3 ⟨bv, u6, u10, u11, u12, u13, u15, u16, rfl, s3, hbv⟩
    rw [List.length_map, List.take_length] at hbv
    obtain ⟨r, hr, _⟩ := foldl_better ((newsOf l asked).map (candOf (tabF tb m) n l m left' keys asked)) none (fun _ e => hne (by simpa using e))
    rw [hr] at hbv
    obtain ⟨p, rfl, hp⟩ := hbv
    refine ⟨_, rfl, hQ p H3 (s02.trans s3) ?_⟩
    rw [bf_succ, hr]
    exact hp
end
end BB
set_option maxHeartbeats 4000000
namespace BB
open PySem PySem.Spec PyProof.Rows L2
noncomputable def Bk.best (asks : Nat) : Bk → Rat × Brk
  | .gen n m rows => gbest rows m
  | .fn n l m tb => bf (tabF tb m) n l m asks (List.range (2 ^ n)) []
def Bk.most : Bk → Nat
  | .gen _ _ _ => 0
  | .fn _ _ _ _ => 2
theorem sc_best : FnScope ["block", "asks", "most"] ["block", "asks"] (defScope s_best) := ⟨rfl, rfl, rfl, by decide +kernel, rfl, by decide +kernel, by decide +kernel⟩
def sp_best (K : PySem.W.Frag) : Sp := fun vs H Q _ => ∃ (blk : Addr) (k : Bk) (asks : Nat), vs = [.ref blk, .int (asks : Nat)] ∧ k.At K H blk ∧ asks ≤ k.most ∧ ∀ p H', Same H H' → EndAt K H' p (k.best asks) → Q (.ref p) H'
theorem k_fg : decide (V.str "function" = V.str "function") = true ∧ decide (V.str "generator" = V.str "function") = false ∧ decide (V.str "function" = V.str "generator") = false ∧ decide (V.str "generator" = V.str "generator") = true := by decide +kernel
section
variable {P : Program} {w : World} {K : PySem.W.Frag} {mg : Str → Option Value} {base : Heap}
theorem ok_best_from (B : Bi mg) (G : Gi K mg) (D : Dfn K mg "best_from" s_best_from) (c_bits : C8.Cal P w K mg base 1 "bits" spBits []) (c_number_of : C8.Cal P w K mg base 1 "number_of" sp_number_of []) (c_fraction : C8.Cal P w K mg base 1 "fraction" (sp_fraction K) []) (c_add : C8.Cal P w K mg base 2 "add" (sp_add K) []) (c_less : C8.Cal P w K mg base 2 "less" (sp_less K) []) (c_told_apart : C8.Cal P w K mg base 3 "told_apart" (sp_told_apart K) []) (c_looking : ∀ n, C8.Cal P w K mg base (n + 1) "looking" (sp_looking K n) []) :
    ∀ left, C8.Cal P w K mg base (left + 5) "best_from" (sp_best_from K left) []
  | 0 => best_from_step B G D c_bits c_number_of c_fraction c_add c_less c_told_apart c_looking 0 0 (fun _ _ _ _ => False) (fun _ e => by omega)
    (D.cal (k := 3) sc_best_from (fun _ _ _ _ _ _ us hl => match us, hl with | [_, _, _, _], _ => rfl) (fun vs H Q E h => h.elim) (fun f cdv A outer s H vs Q E hr h => h.elim))
  | left + 1 => best_from_step B G D c_bits c_number_of c_fraction c_add c_less c_told_apart c_looking (left + 1) (left + 1) (sp_best_from K left) (fun l' e => by
      have : left = l' := by omega
      rw [this]) (ok_best_from B G D c_bits c_number_of c_fraction c_add c_less c_told_apart c_looking left)
theorem ok_best (B : Bi mg) (G : Gi K mg) (D : Dfn K mg "best" s_best)  (c_check_block : C8.Cal P w K mg base 4 "check_block" (sp_check_block K) []) (c_is_number : C8.Cal P w K mg base 1 "is_number" sp_is_number []) (c_best_of_rows : C8.Cal P w K mg base 6 "best_of_rows" (sp_best_of_rows K) []) (c_best_from : ∀ left, C8.Cal P w K mg base (left + 5) "best_from" (sp_best_from K left) []) : C8.Cal P w K mg base 8 "best" (sp_best K) [] := by
  refine D.cal sc_best (fun _ _ _ _ _ _ us hl => match us, hl with | [_, _], _ => rfl) (fun vs H Q E h => ?_) (fun f cdv A outer s H vs Q E hr h => ?_)
  · obtain ⟨blk, k, asks, rfl, _⟩ := h
    rfl
  obtain ⟨blk, k, asks, rfl, hB, hask, hQ⟩ := h
  replace c_best_from := c_best_from asks
  have ha2 : asks ≤ 2 := by cases k <;> simp [Bk.most] at hask <;> omega
  refine ⟨_, (pss_cons (ps_expr (C8.pe_c c_check_block hr (by omega) rfl (pa_cons (pv 0) pa_nil)))
    (pss_cons (ps_set (i := 2) sc_best.nd rfl (Or.inl rfl) pe_int)
    (pss_cons (ps_if (pt_cmpR op_eq (pe_ix ix_tup (pv 0) pe_int (fun _ _ => rfl)) pe_str (nomark _)) (pss_cons (ps_set (i := 2) sc_best.nd rfl (Or.inl rfl) pe_int)
      (pss_one (ps_if (PW.pt (pw_or (pt_cmpR op_gt (pe_ix ix_tup (pv 0) pe_int (fun _ _ => rfl)) pe_int (nomark _)) (pw_or1 (pt_cmpR op_gt (pe_ix ix_tup (pv 0) pe_int (fun _ _ => rfl)) pe_int (nomark _))))) (pss_one ps_never) pss_nil))) (pss_one (ps_if (pt_cmpR op_gt (pe_ix ix_tup (pv 0) pe_int (fun _ _ => rfl)) pe_int (nomark _)) (pss_one ps_never) pss_nil)))
    (pss_cons (ps_if (pt_not (pt_val (C8.pe_c c_is_number hr (by omega) rfl (pa_cons (pv 1) (pa_cons pe_int (pa_cons (pv 2) pa_nil)))))) (pss_one ps_never) pss_nil)
    (pss_cons (ps_if (pt_cmpR op_eq (pe_ix ix_tup (pv 0) pe_int (fun _ _ => rfl)) pe_str (nomark _)) (pss_one (ps_ret (C8.pe_c c_best_of_rows hr (by omega) rfl (pa_cons (pv 0) pa_nil)))) pss_nil)
    (pss_one (ps_ret (C8.pe_c c_best_from hr (by omega) rfl (pa_cons (pv 0) (pa_cons (pe_listRg rfl rfl B.list (prg_1 rfl B.range (pe_op op_shl pe_int (pe_ix ix_tup (pv 0) pe_int (fun _ _ => rfl))))) (pa_cons (pe_lst pa_nil) (pa_cons (pv 1) pa_nil)))))))))))), ?_⟩
  refine ⟨_, rfl, blk, rfl, hB.blk, fun H1 s1 => ?_⟩
  have hB1 := hB.tm s1.tm
  obtain ⟨k1, k2, k3, k4⟩ := k_fg
  cases k with
  | gen n m rows =>
    obtain ⟨⟨q, h1, h2⟩, g, n1, n2, m1, m4⟩ := id hB1
    refine ⟨_, rfl, _, _, _, _, rfl, rfl, h1, at0 _ _, rfl, _, rfl, ?_⟩
    rw [k2]
    refine iteF ?_
    refine ⟨_, rfl, _, _, _, _, rfl, rfl, h1, at2 _ _ _ _, _, _, rfl, rfl, _, rfl, ?_⟩
    rw [decide_eq_false (by omega)]
    refine iteF ?_
    have e0 : asks = 0 := by simp [Bk.most] at hask; exact hask
    subst e0
    refine ⟨_, rfl, _, rfl, 0, 0, 0, rfl, _, rfl, ?_⟩
    rw [show (decide ((0 : Int) ≤ 0) && decide ((0 : Int) ≤ 0)) = true by decide]
    refine iteF ?_
    refine ⟨_, rfl, _, _, _, _, rfl, rfl, h1, at0 _ _, rfl, _, rfl, ?_⟩
    rw [k4]
    refine iteT ?_
    exact ⟨_, rfl, blk, n, m, rows, rfl, hB1.1, g, by omega, m4, fun p H2 s2 hp => hQ p H2 (s1.trans s2) hp⟩
  | fn n l m tb =>
    obtain ⟨⟨q, qs, h1, h2, h3⟩, g, n1, n2, l1, l2, m1, m2⟩ := id hB1
    refine ⟨_, rfl, _, _, _, _, rfl, rfl, h1, at0 _ _, rfl, _, rfl, ?_⟩
    rw [k1]
    refine iteT ?_
    refine ⟨_, rfl, _, _, _, _, rfl, rfl, h1, at2 _ _ _ _, _, _, rfl, rfl, _, rfl, ?_⟩
    rw [decide_eq_false (by omega)]
    refine iteF ?_
    refine ⟨_, rfl, _, _, _, _, rfl, rfl, h1, at3 _ _ _ _ _, _, _, rfl, rfl, _, rfl, ?_⟩
    rw [decide_eq_false (by omega)]
    refine iteF ?_
    refine ⟨_, rfl, _, rfl, asks, 0, 2, rfl, _, rfl, ?_⟩
    rw [decide_eq_true (by omega), decide_eq_true (by omega)]
    refine iteF ?_
    refine ⟨_, rfl, _, _, _, _, rfl, rfl, h1, at0 _ _, rfl, _, rfl, ?_⟩
    rw [k3]
    refine iteF ?_
    obtain ⟨N, hN⟩ : ∃ N : Nat, N = 2 ^ n := ⟨_, rfl⟩
    have N4 : N ≤ 4 := by rw [hN]; exact Nat.pow_le_pow_right (n := 2) (by decide) n2
    have sh : (1 : Int) * 2 ^ ((n : Int).toNat) = (N : Int) := by rw [hN]; exact shl1 n
    refine ⟨_, rfl, _, rfl, _, _, _, _, rfl, rfl, h1, at1 _ _ _, _, _, rfl, rfl, ⟨by omega, by omega, by decide⟩, (N : Int), congrArg V.int sh, ?_⟩
    have erg : rgV 0 (N : Int) = (List.range N).map fun k : Nat => V.int k := by
      unfold rgV
      rw [show ((N : Int) - 0).toNat = N by omega]
      refine List.map_congr_left fun i _ => ?_
      rw [Int.zero_add]
    dsimp only
    rw [erg]
    refine ⟨.of_le (by omega) (by omega) (by omega) (by omega), fun kl hkl => ⟨Nat.zero_le _, fun al hal => ⟨_, rfl, ?_⟩⟩⟩
    have sa := Same.new (o := .lst ((List.range N).map fun k : Nat => V.int k)) hkl
    have sb := Same.new (o := .lst []) hal
    refine ⟨blk, kl, al, n, l, m, tb, List.range N, [], rfl, hB1.1.tm (sa.trans sb).tm, g, n2, l2, m2, sb _ _ upd_same, upd_same, fun k hk => by rw [← hN]; exact List.mem_range.mp hk, by rw [List.length_range]; exact N4, by simp; omega, fun p H2 s2 hp => hQ p H2 (s1.trans (sa.trans (sb.trans s2))) ?_⟩
    rw [hN] at hp
    exact hp
end
end BB
set_option maxHeartbeats 4000000
namespace BB
open PySem PySem.Spec PyProof.Rows L2
/-- a call of what an expression gives: one of two defs -/
def tCallE (f1 f2 : Addr) (sp1 sp2 : Sp) (tf : TE) (t : TA) : TE := fun σ H Q => tf σ H fun v H1 => (v = .ref f1 ∧ t σ H1 fun vs H2 => sp1 vs H2 Q E0) ∨ (v = .ref f2 ∧ t σ H1 fun vs H2 => sp2 vs H2 Q E0)
section
variable {X : Cx} {j : Nat} {fe e : Expr} {es : List Expr} {t : TA} {tf : TE} {pos : Pos}
theorem pe_cE {k1 k2 : Nat} {f1 f2 : Addr} {sp1 sp2 : Sp} (c1 : C8.CalAt X.prog X.w X.K X.mg X.base k1 f1 sp1) (c2 : C8.CalAt X.prog X.w X.K X.mg X.base k2 f2 sp2) (hr : Room j X.A) (hk1 : k1 ≤ j) (hk2 : k2 ≤ j) (hf : PE X fe tf) (ha : PA X (e :: es) t)
    (hcall : eval (.Call fe (e :: es) [] pos) X.env = (do callWith pos (← eval fe X.env) [] (backTo pos (starEach (e :: es) X.env)) (backToKw pos (keywordEach [] X.env))) := by rfl)
    (he : starEach (e :: es) X.env = (false, eval e X.env) :: starEach es X.env := by rfl) (hpl : (backTo pos (starEach es X.env)).any (·.1) = false := by rfl) :
    PE X (.Call fe (e :: es) [] pos) (tCallE f1 f2 sp1 sp2 tf t) := by
  refine ⟨fun pins s σ H Q I h => ?_⟩
  rw [hcall]
  refine wpAny_bind (thn (hf.run pins s σ H _ I h) fun u s1 ⟨v, H1, I1, r1, q1⟩ => ?_)
  have go : ∀ {k : Nat} {f : Addr} {sp : Sp}, C8.CalAt X.prog X.w X.K X.mg X.base k f sp → k ≤ j → v = .ref f → (t σ H1 fun vs H2 => sp vs H2 Q E0) → wpAny (model X.prog X.w) X.A (callWith pos u [] (backTo pos (starEach (e :: es) X.env)) (backToKw pos (keywordEach [] X.env))) (EP X pins σ Q) X.xe s1 := fun {k f sp} c hk hv ht => by
    obtain ⟨fd, ps, F, kp, b⟩ := c.ex
    subst hv
    cases r1
    refine PySem.W.callWith_K (h₀ := X.base) I.ok.mod.kin kp (thn (ha.run pos pins s1 σ _ _ I1 ht) fun us s2 ⟨vs, H2, I2, r, q⟩ => ⟨I2.kIn, ?_⟩) he hpl
    exact run_fn F (hr.mono hk) b .nil C8.pass0 I2 r (by rw [List.append_nil]; exact q)
  rcases q1 with ⟨h1, h2⟩ | ⟨h1, h2⟩
  · exact go c1 hk1 h1 h2
  · exact go c2 hk2 h1 h2
end
inductive LK where
  | longer
  | tree
def LK.word : LK → Str
  | .longer => "longer"
  | .tree => "tree"
def SchAt (K : PySem.W.Frag) (H : Hp) (s : Addr) (l : LK) (k : Nat) : Prop := ∃ e, SqT K H s [.str l.word, .int k, .ref e] ∧ SqT K H e [.str "block"]
/-- what is told of LAYERS -/
structure LaK (K : PySem.W.Frag) (w : World) (mg : Str → Option Value) : Prop where
  kd : ∃ es n, KDict K w (He.ga K "LAYERS") es n
  at_ : ∀ l : LK, ∃ f, mg l.word = some (.ref f) ∧ PySem.W.nsIn K (He.ga K "LAYERS") l.word = some (some (.ref f))
theorem sc_layers_of : FnScope ["scheme", "found"] ["scheme"] (defScope s_layers_of) := ⟨rfl, rfl, rfl, by decide +kernel, rfl, by decide +kernel, by decide +kernel⟩
theorem sc_tables_of : FnScope ["scheme", "block", "tables", "kind", "number"] ["scheme", "block"] (defScope s_tables_of) := ⟨rfl, rfl, rfl, by decide +kernel, rfl, by decide +kernel, by decide +kernel⟩
theorem sc_built : FnScope ["scheme", "block"] ["scheme", "block"] (defScope s_built) := ⟨rfl, rfl, rfl, by decide +kernel, rfl, by decide +kernel, by decide +kernel⟩
def sp_layers_of (K : PySem.W.Frag) : Sp := fun vs H Q _ => ∃ (s : Addr) (l : LK) (k : Nat), vs = [.ref s] ∧ SchAt K H s l k ∧ ∀ f p H', Same H H' → H f = none → H' f = some (.lst [.ref p]) → SqT K H' p [.str l.word, .int k] → Q (.ref f) H'
def sp_tables_of (K : PySem.W.Frag) : Sp := fun vs H Q _ => (∃ (s b : Addr) (k n : Nat) (rows : List Bs), vs = [.ref s, .ref b] ∧ SchAt K H s .longer k ∧ GenAt K H b n (n + 1) rows ∧ GenOk rows n (n + 1) ∧ 1 ≤ n ∧ n ≤ 2 ∧ 1 ≤ k ∧ k ≤ 2 ∧
    ∀ f p H', Same H H' → H' f = some (.lst [.ref b, .ref p]) → GenAt K H' p n (n + k) (longRows rows n k) → Q (.ref f) H') ∨
  (∃ (s b : Addr) (n : Nat) (rows : List Bs), vs = [.ref s, .ref b] ∧ SchAt K H s .tree 1 ∧ GenAt K H b n (2 * n) rows ∧ GenOk rows n (2 * n) ∧ 1 ≤ n ∧ n ≤ 2 ∧
    ∀ f p H', Same H H' → H' f = some (.lst [.ref b, .ref p]) → FunAt K H' p n 1 n (treeTab rows n) → Q (.ref f) H')
def sp_built (K : PySem.W.Frag) : Sp := fun vs H Q _ => (∃ (s b : Addr) (k n : Nat) (rows : List Bs), vs = [.ref s, .ref b] ∧ SchAt K H s .longer k ∧ GenAt K H b n (n + 1) rows ∧ GenOk rows n (n + 1) ∧ 1 ≤ n ∧ n ≤ 2 ∧ 1 ≤ k ∧ k ≤ 2 ∧
    ∀ p H', Same H H' → GenAt K H' p n (n + k) (longRows rows n k) → Q (.ref p) H') ∨
  (∃ (s b : Addr) (n : Nat) (rows : List Bs), vs = [.ref s, .ref b] ∧ SchAt K H s .tree 1 ∧ GenAt K H b n (2 * n) rows ∧ GenOk rows n (2 * n) ∧ 1 ≤ n ∧ n ≤ 2 ∧
    ∀ p H', Same H H' → FunAt K H' p n 1 n (treeTab rows n) → Q (.ref p) H')
def dSch (l : LK) (k : Nat) : PyData := .tuple [.str l.word, .int k, .tuple [.str "block"]]
def dBlk : PyData := .tuple [.str "block"]
theorem eqv_sch (l : LK) (k : Nat) : PyData.eqv (dSch l k) dBlk = false ∧ PyData.eqv dBlk dBlk = true := by
  unfold dSch dBlk
  refine ⟨by simp [PyData.eqv, PyData.eqvAll], by simp [PyData.eqv, PyData.eqvAll]⟩
theorem strOk_sch : PyData.strOk "block" = true ∧ PyData.strOk "longer" = true ∧ PyData.strOk "tree" = true := by decide +kernel
theorem shaped_sch (l : LK) (k : Nat) : SeqAt.shaped (dSch l k) = true ∧ SeqAt.shaped dBlk = true := by
  obtain ⟨a, b, c⟩ := strOk_sch
  unfold SeqAt.shaped dSch dBlk
  have hl : PyData.strOk l.word = true := by
    cases l
    · exact b
    · exact c
  simp [PyData.canLay0, PyData.canLayAll0, PyData.depth, PyData.depthAll, a, hl]
section
variable {P : Program} {w : World} {K : PySem.W.Frag} {mg : Str → Option Value} {base : Heap}
theorem ok_layers_of (B : Bi mg) (G : Gi K mg) (D : Dfn K mg "layers_of" s_layers_of)  (La : LaK K w mg) : C8.Cal P w K mg base 1 "layers_of" (sp_layers_of K) [] := by
  refine D.cal sc_layers_of (fun _ _ _ _ _ _ us hl => match us, hl with | [_], _ => rfl) (fun vs H Q E h => ?_) (fun f cdv A outer s H vs Q E hr h => ?_)
  · obtain ⟨s, l, k, rfl, _⟩ := h
    rfl
  obtain ⟨es, n, kLAYERS⟩ := La.kd
  obtain ⟨s, l, k, rfl, ⟨e, h1, h2⟩, hQ⟩ := h
  obtain ⟨fl, _, hnl⟩ := La.at_ l
  refine ⟨_, (pss_cons (ps_set (i := 1) sc_layers_of.nd rfl (Or.inl rfl) (pe_lst pa_nil))
    (pss_cons (ps_while PassesOwn.never (pt_cmpR (op_neD (hr.units)) (pv 0) (pe_tup (pa_cons pe_str pa_nil)) (nomark _)) (pss_cons (ps_if (PW.pt (pw_or (pt_not (pt_val (pe_callB call_isi (by rfl) B.isinstance (by decide +kernel) (pa_cons (pv 0) (pa_cons (pe_bltn (v := .ty "tuple") (by rfl) B.tuple (by decide +kernel) rfl) pa_nil))))) (pw_or1 (pt_cmpR op_ne (pe_callB call_len_seq (by rfl) B.len PySem.boot_len (pa_cons (pv 0) pa_nil)) pe_int (nomark _))))) (pss_one ps_never) pss_nil)
      (pss_cons (ps_if (PW.pt (pw_or (pt_not (pt_val (pe_callB call_isi (by rfl) B.isinstance (by decide +kernel) (pa_cons (pe_ix ix_tup (pv 0) pe_int (fun _ _ => rfl)) (pa_cons (pe_bltn (v := .ty "str") (by rfl) B.str (by decide +kernel) rfl) pa_nil))))) (pw_or1 (pt_cmpR (op_notIn_kd kLAYERS) (pe_ix ix_tup (pv 0) pe_int (fun _ _ => rfl)) (C8.pe_gc rfl G.g_LAYERS) (by rfl))))) (pss_one ps_never) pss_nil)
      (pss_cons (ps_expr (pe_bm PySem.F.plainAttrs_list PySem.F.slot_list_append PySem.F.type_list_append mt_append (pv 1) (pa_cons (pe_tup (pa_cons (pe_ix ix_tup (pv 0) pe_int (fun _ _ => rfl)) (pa_cons (pe_ix ix_tup (pv 0) pe_int (fun _ _ => rfl)) pa_nil))) pa_nil)))
      (pss_cons (ps_set (i := 0) sc_layers_of.nd rfl (Or.inl rfl) (pe_ix ix_tup (pv 0) pe_int (fun _ _ => rfl)))
      (pss_one (ps_if (pt_cmpR op_ge (pe_callB call_len_seq (by rfl) B.len PySem.boot_len (pa_cons (pv 1) pa_nil)) (C8.pe_gc rfl G.g_MOST_DEEP) (nomark _)) (pss_one ps_never) pss_nil)))))))
    (pss_one (ps_ret (pv 1))))), ?_⟩
  refine ⟨Nat.zero_le _, fun F hF => ?_⟩
  have sF := Same.new (o := .lst []) hF
  refine ⟨fun m σ H' => (m = 1 ∧ σ = [some (.ref s), some (.ref F)] ∧ Same H H' ∧ H' F = some (.lst [])) ∨ (m = 0 ∧ ∃ p, σ = [some (.ref e), some (.ref F)] ∧ Same H H' ∧ H' F = some (.lst [.ref p]) ∧ SqT K H' p [.str l.word, .int k]), ⟨1, .inl ⟨rfl, rfl, sF, upd_same⟩⟩, ?_⟩
  rintro m σ H' (⟨rfl, rfl, s1, hF1⟩ | ⟨rfl, p, rfl, s1, hF1, hp⟩)
  · have h1' := s1.tup h1
    have h2' := s1.tup h2
    refine ⟨_, rfl, (by show 1 ≤ sizeLine; decide), fun t ht => ?_⟩
    have st := Same.new (o := .tup [.str "block"]) ht
    have h1t := st.tup h1'
    refine ⟨dSch l k, dBlk, .tup h1t (.cons (.str _) (.cons (.int _) (.cons (.tup (st.tup h2') (.cons (.str _) .nil)) .nil))), .tup (.inl (.inl upd_same)) (.cons (.str _) .nil), (shaped_sch l k).1, (shaped_sch l k).2, _, rfl, ?_⟩
    rw [(eqv_sch l k).1]
    refine iteT ⟨_, fun _ _ n => n, ?_⟩
    refine ⟨_, rfl, _, _, _, _, _, rfl, .ty _, tyT h1t, k_tup_tup, _, rfl, iteF ?_⟩
    refine ⟨_, rfl, s, _, rfl, .inr h1t, rfl, _, rfl, iteF ?_⟩
    refine ⟨_, rfl, _, _, _, _, rfl, rfl, h1t, at0 _ _, _, _, _, _, _, rfl, .ty _, .base (.str _), k_str_str, _, rfl, iteF ?_⟩
    refine ⟨_, rfl, _, _, _, _, rfl, rfl, h1t, at0 _ _, _, _, rfl, rfl, hnl, _, rfl, iteF ?_⟩
    have hFt := st _ _ hF1
    refine ⟨_, rfl, .inl ⟨rfl, _, .inl (.inl hFt)⟩, _, rfl, _, _, _, _, rfl, rfl, h1t, at0 _ _, _, rfl, _, _, _, _, rfl, rfl, h1t, at1 _ _ _, (by show 2 ≤ sizeLine; decide), fun p hp => ?_⟩
    have sp := Same.new (o := .tup [.str l.word, .int k]) hp
    refine ⟨F, [], _, rfl, rfl, sp _ _ hFt, by decide, ?_⟩
    have sm : Same H (upd (upd (upd H' t (.tup [.str "block"])) p (.tup [.str l.word, .int k])) F (.lst ([] ++ [V.ref p]))) := L2.Same.mut ((s1.trans st).trans sp) hF
    refine ⟨_, rfl, _, _, _, _, rfl, rfl, sm.tup h1, at2 _ _ _ _, ?_⟩
    refine ⟨_, rfl, F, _, rfl, .inl (.inl (.inl upd_same)), _, _, rfl, rfl, _, rfl, ?_⟩
    rw [show decide ((8 : Int) ≤ (([] ++ [V.ref p] : List V).length : Nat)) = false from rfl]
    refine iteF ?_
    refine ⟨0, by decide, .inr ⟨rfl, p, rfl, sm, upd_same, ?_⟩⟩
    exact (Tm.lst (sp _ _ hFt)) _ _ (.inl (.inl upd_same))
  · have h2' := s1.tup h2
    refine ⟨_, rfl, (by show 1 ≤ sizeLine; decide), fun t ht => ?_⟩
    have st := Same.new (o := .tup [.str "block"]) ht
    refine ⟨dBlk, dBlk, .tup (st.tup h2') (.cons (.str _) .nil), .tup (.inl (.inl upd_same)) (.cons (.str _) .nil), (shaped_sch l k).2, (shaped_sch l k).2, _, rfl, ?_⟩
    rw [(eqv_sch l k).2]
    refine iteF ?_
    exact ⟨_, rfl, hQ F p _ (s1.trans st) hF (st _ _ hF1) (st.tup hp)⟩
theorem wn_rev {K : PySem.W.Frag} {H : Hp} {a : Addr} {xs : List V} (h : SqL K H a xs) : WkN (Itv K a xs.length) H xs.length (fun i => xs.getD (xs.length - 1 - i) .non) where
  go := fun i H' hi s => ⟨hi, xs, xs[xs.length - 1 - i], s.seq h, by simp [show xs.length - 1 - i < xs.length by omega]⟩
  yld := fun i H' x H'' hi s y => by
    obtain ⟨e, y⟩ := y
    refine ⟨e, ?_⟩
    have := y xs (s.seq h)
    rw [List.getD_eq_getElem?_getD, this]; rfl
  stop := fun H' s => Nat.le_refl _
end
end BB
set_option maxHeartbeats 4000000
namespace BB
open PySem PySem.Spec PyProof.Rows L2
theorem cal_at {P : Program} {w : World} {K : PySem.W.Frag} {mg : Str → Option Value} {base : Heap} {k : Nat} {x : Str} {sp : Sp} (c : C8.Cal P w K mg base k x sp []) : ∃ f, mg x = some (.ref f) ∧ C8.CalAt P w K mg base k f sp := by
  obtain ⟨f, fd, ps, ds, F, hm, kp, b, d⟩ := c.ex
  cases d
  exact ⟨f, hm, fd, ps, F, kp, b⟩
section
variable {P : Program} {w : World} {K : PySem.W.Frag} {mg : Str → Option Value} {base : Heap}
theorem ok_tables_of (B : Bi mg) (G : Gi K mg) (D : Dfn K mg "tables_of" s_tables_of)  (La : LaK K w mg) (c_layers_of : C8.Cal P w K mg base 1 "layers_of" (sp_layers_of K) []) (c_longer : C8.Cal P w K mg base 5 "longer" (sp_longer K) []) (c_tree : C8.Cal P w K mg base 5 "tree" (sp_tree K) []) : C8.Cal P w K mg base 6 "tables_of" (sp_tables_of K) [] := by
  refine D.cal sc_tables_of (fun _ _ _ _ _ _ us hl => match us, hl with | [_, _], _ => rfl) (fun vs H Q E h => ?_) (fun f cdv A outer s H vs Q E hr h => ?_)
  · rcases h with ⟨s, b, k, n, rows, rfl, _⟩ | ⟨s, b, n, rows, rfl, _⟩ <;> rfl
  obtain ⟨es, nd, kL⟩ := La.kd
  obtain ⟨fl, hml, hnl⟩ := La.at_ .longer
  obtain ⟨ft, hmt, hnt⟩ := La.at_ .tree
  obtain ⟨fl', hml', f_longer⟩ := cal_at c_longer
  obtain ⟨ft', hmt', f_tree⟩ := cal_at c_tree
  rw [show LK.longer.word = "longer" from rfl, hml'] at hml
  rw [show LK.tree.word = "tree" from rfl, hmt'] at hmt
  cases (Value.ref.inj (Option.some.inj hml))
  cases (Value.ref.inj (Option.some.inj hmt))
  rcases h with h | h
  · obtain ⟨s, b, k, n, rows, rfl, hS, hG, g, n1, n2, k1, k2, hQ⟩ := h
    refine ⟨_, (pss_cons (ps_set (i := 2) sc_tables_of.nd rfl (Or.inl rfl) (pe_lst (pa_cons (pv 1) pa_nil)))
    (pss_cons (ps_for PassesOwn.never rfl (pi_reversed rfl B.reversed (pa_cons (C8.pe_c c_layers_of hr (by omega) rfl (pa_cons (pv 0) pa_nil)) pa_nil)) (pg_tup rfl (pgs_cons (pg_name (i := 3) sc_tables_of.nd rfl (Or.inl rfl)) (pgs_cons (pg_name (i := 4) sc_tables_of.nd rfl (Or.inl rfl)) pgs_nil))) (pss_one (ps_expr (pe_bm PySem.F.plainAttrs_list PySem.F.slot_list_append PySem.F.type_list_append mt_append (pv 2) (pa_cons (pe_cE f_longer f_tree hr (by omega) (by omega) (pe_ix ix_kdict (C8.pe_gc rfl G.g_LAYERS) (pv 3) (fun _ _ => rfl)) (pa_cons (pe_ix ix_list (pv 2) (pe_un un_neg pe_int) (fun _ _ => rfl)) (pa_cons (pv 4) pa_nil))) pa_nil)))))
    (pss_one (ps_ret (pv 2))))), ?_⟩
    refine ⟨_, rfl, (by show 1 ≤ sizeLine; decide), fun T hT => ?_⟩
    have sT := Same.new (o := .lst [.ref b]) hT
    obtain ⟨e, h1, h2⟩ := hS
    refine ⟨_, rfl, s, .longer, k, rfl, ⟨e, sT.tup h1, sT.tup h2⟩, fun f p H1 s1 hf0 hf hp => ?_⟩
    have hT1 := s1 _ _ (upd_same (H := H) (a := T) (o := .lst [.ref b]))
    have nfT : f ≠ T := fun z => by rw [z, upd_same] at hf0; cases hf0
    have hfx : hole H1 T f = some (.lst [.ref p]) := by rw [hole_ne nfT]; exact hf
    have sHx : Same H (hole H1 T) := to_hole (sT.trans s1) hT
    refine ⟨f, [.ref p], rfl, .inl (.inl hf), forW (H1 := hole H1 T) (wn_rev (.inl (.inl hfx))) (fun i σ H' => ∃ (u3 u4 : Option V), σ = [some (.ref s), some (.ref b), some (.ref T), u3, u4] ∧ Same (hole H1 T) H' ∧ ((i = 0 ∧ Tm K H1 H' ∧ H' T = some (.lst [.ref b])) ∨ (i = 1 ∧ ∃ p', H' T = some (.lst [.ref b, .ref p']) ∧ GenAt K H' p' n (n + k) (longRows rows n k)))) ⟨none, none, rfl, hole_same _ _, .inl ⟨rfl, Tm.refl _, hT1⟩⟩ (fun i σ H' ⟨_, _, _, e, _⟩ => e) ?_ ?_⟩
    · rintro i σ H' hi ⟨u3, u4, rfl, s2, hc⟩
      have hi : i < 1 := hi
      have e0 : i = 0 := by omega
      subst e0
      rcases hc with ⟨_, tm, hT2⟩ | ⟨z, _⟩
      rotate_left
      · cases z
      show gTup K 2 (gCons (gName 3) (gCons (gName 4) gNil)) (V.ref p) _ _ _
      have sH2 := sHx.trans s2
      refine ⟨p, _, rfl, tm _ _ hp, rfl, _, _, rfl, _, _, rfl, rfl, ?_⟩
      refine ⟨_, rfl, .inl ⟨rfl, _, .inl (.inl hT2)⟩, _, rfl, _, _, .ref fl, rfl, rfl, ⟨es, nd, _, kL.at_, kL.lit, hnl, rfl⟩, .inl ⟨rfl, _, rfl, _, rfl, T, [.ref b], _, .ref b, rfl, rfl, .inl (.inl hT2), rfl, _, rfl, b, n, rows, k, rfl, hG.tm sH2.tm, g, n1, by omega, k1, k2, fun p' H3 s3 hp' => ?_⟩⟩
      have hT3 := s3 _ _ hT2
      refine ⟨T, [.ref b], _, rfl, rfl, hT3, szlt (by simp), _, _, rfl, L2.Same.mut (s2.trans s3) (hole_at _ _), .inr ⟨rfl, p', upd_same, hp'.tm (Tm.lst hT3)⟩⟩
    · rintro σ H' ⟨u3, u4, rfl, s2, hc⟩
      rcases hc with ⟨z, _⟩ | ⟨_, p', hT2, hp'⟩
      · cases z
      · exact ⟨_, rfl, hQ T p' H' (sHx.trans s2) hT2 hp'⟩
  · obtain ⟨s, b, n, rows, rfl, hS, hG, g, n1, n2, hQ⟩ := h
    refine ⟨_, (pss_cons (ps_set (i := 2) sc_tables_of.nd rfl (Or.inl rfl) (pe_lst (pa_cons (pv 1) pa_nil)))
    (pss_cons (ps_for PassesOwn.never rfl (pi_reversed rfl B.reversed (pa_cons (C8.pe_c c_layers_of hr (by omega) rfl (pa_cons (pv 0) pa_nil)) pa_nil)) (pg_tup rfl (pgs_cons (pg_name (i := 3) sc_tables_of.nd rfl (Or.inl rfl)) (pgs_cons (pg_name (i := 4) sc_tables_of.nd rfl (Or.inl rfl)) pgs_nil))) (pss_one (ps_expr (pe_bm PySem.F.plainAttrs_list PySem.F.slot_list_append PySem.F.type_list_append mt_append (pv 2) (pa_cons (pe_cE f_longer f_tree hr (by omega) (by omega) (pe_ix ix_kdict (C8.pe_gc rfl G.g_LAYERS) (pv 3) (fun _ _ => rfl)) (pa_cons (pe_ix ix_list (pv 2) (pe_un un_neg pe_int) (fun _ _ => rfl)) (pa_cons (pv 4) pa_nil))) pa_nil)))))
    (pss_one (ps_ret (pv 2))))), ?_⟩
    refine ⟨_, rfl, (by show 1 ≤ sizeLine; decide), fun T hT => ?_⟩
    have sT := Same.new (o := .lst [.ref b]) hT
    obtain ⟨e, h1, h2⟩ := hS
    refine ⟨_, rfl, s, .tree, 1, rfl, ⟨e, sT.tup h1, sT.tup h2⟩, fun f p H1 s1 hf0 hf hp => ?_⟩
    have hT1 := s1 _ _ (upd_same (H := H) (a := T) (o := .lst [.ref b]))
    have nfT : f ≠ T := fun z => by rw [z, upd_same] at hf0; cases hf0
    have hfx : hole H1 T f = some (.lst [.ref p]) := by rw [hole_ne nfT]; exact hf
    have sHx : Same H (hole H1 T) := to_hole (sT.trans s1) hT
    refine ⟨f, [.ref p], rfl, .inl (.inl hf), forW (H1 := hole H1 T) (wn_rev (.inl (.inl hfx))) (fun i σ H' => ∃ (u3 u4 : Option V), σ = [some (.ref s), some (.ref b), some (.ref T), u3, u4] ∧ Same (hole H1 T) H' ∧ ((i = 0 ∧ Tm K H1 H' ∧ H' T = some (.lst [.ref b])) ∨ (i = 1 ∧ ∃ p', H' T = some (.lst [.ref b, .ref p']) ∧ FunAt K H' p' n 1 n (treeTab rows n)))) ⟨none, none, rfl, hole_same _ _, .inl ⟨rfl, Tm.refl _, hT1⟩⟩ (fun i σ H' ⟨_, _, _, e, _⟩ => e) ?_ ?_⟩
    · rintro i σ H' hi ⟨u3, u4, rfl, s2, hc⟩
      have hi : i < 1 := hi
      have e0 : i = 0 := by omega
      subst e0
      rcases hc with ⟨_, tm, hT2⟩ | ⟨z, _⟩
      rotate_left
      · cases z
      show gTup K 2 (gCons (gName 3) (gCons (gName 4) gNil)) (V.ref p) _ _ _
      have sH2 := sHx.trans s2
      refine ⟨p, _, rfl, tm _ _ hp, rfl, _, _, rfl, _, _, rfl, rfl, ?_⟩
      refine ⟨_, rfl, .inl ⟨rfl, _, .inl (.inl hT2)⟩, _, rfl, _, _, .ref ft, rfl, rfl, ⟨es, nd, _, kL.at_, kL.lit, hnt, rfl⟩, .inr ⟨rfl, _, rfl, _, rfl, T, [.ref b], _, .ref b, rfl, rfl, .inl (.inl hT2), rfl, _, rfl, b, n, rows, rfl, hG.tm sH2.tm, g, n1, by omega, fun p' H3 s3 hp' => ?_⟩⟩
      have hT3 := s3 _ _ hT2
      refine ⟨T, [.ref b], _, rfl, rfl, hT3, szlt (by simp), _, _, rfl, L2.Same.mut (s2.trans s3) (hole_at _ _), .inr ⟨rfl, p', upd_same, hp'.tm (Tm.lst hT3)⟩⟩
    · rintro σ H' ⟨u3, u4, rfl, s2, hc⟩
      rcases hc with ⟨z, _⟩ | ⟨_, p', hT2, hp'⟩
      · cases z
      · exact ⟨_, rfl, hQ T p' H' (sHx.trans s2) hT2 hp'⟩
theorem ok_built (B : Bi mg) (G : Gi K mg) (D : Dfn K mg "built" s_built)  (c_check_block : C8.Cal P w K mg base 4 "check_block" (sp_check_block K) []) (c_tables_of : C8.Cal P w K mg base 6 "tables_of" (sp_tables_of K) []) : C8.Cal P w K mg base 7 "built" (sp_built K) [] := by
  refine D.cal sc_built (fun _ _ _ _ _ _ us hl => match us, hl with | [_, _], _ => rfl) (fun vs H Q E h => ?_) (fun f cdv A outer s H vs Q E hr h => ?_)
  · rcases h with ⟨s, b, k, n, rows, rfl, _⟩ | ⟨s, b, n, rows, rfl, _⟩ <;> rfl
  refine ⟨_, (pss_cons (ps_expr (C8.pe_c c_check_block hr (by omega) rfl (pa_cons (pv 1) pa_nil)))
    (pss_one (ps_ret (pe_ix ix_list (C8.pe_c c_tables_of hr (by omega) rfl (pa_cons (pv 0) (pa_cons (pv 1) pa_nil))) (pe_un un_neg pe_int) (fun _ _ => rfl))))), ?_⟩
  rcases h with ⟨s, b, k, n, rows, rfl, ⟨e, h1, h2⟩, hG, g, n1, n2, k1, k2, hQ⟩ | ⟨s, b, n, rows, rfl, ⟨e, h1, h2⟩, hG, g, n1, n2, hQ⟩
  · refine ⟨_, rfl, b, rfl, .gen hG g n1 (by omega) (by omega) (by omega), fun H1 s1 => ?_⟩
    refine ⟨_, rfl, _, rfl, .inl ⟨s, b, k, n, rows, rfl, ⟨e, s1.tup h1, s1.tup h2⟩, hG.tm s1.tm, g, n1, n2, k1, k2, fun f p H2 s2 hf hp => ?_⟩⟩
    exact ⟨_, rfl, f, _, _, .ref p, rfl, rfl, .inl (.inl hf), rfl, hQ p H2 (s1.trans s2) hp⟩
  · refine ⟨_, rfl, b, rfl, .gen hG g n1 (by omega) (by omega) (by omega), fun H1 s1 => ?_⟩
    refine ⟨_, rfl, _, rfl, .inr ⟨s, b, n, rows, rfl, ⟨e, s1.tup h1, s1.tup h2⟩, hG.tm s1.tm, g, n1, n2, fun f p H2 s2 hf hp => ?_⟩⟩
    exact ⟨_, rfl, f, _, _, .ref p, rfl, rfl, .inl (.inl hf), rfl, hQ p H2 (s1.trans s2) hp⟩
end
end BB
set_option maxHeartbeats 4000000
namespace BB
open PySem PySem.Spec PyProof.Rows L2
/-- [elt for i in range(n)], whatever the turns change -/
theorem lcRg {H1 : Hp} {n : Nat} {ks : List Nat} {g : TG} {te : TE} {σ : L2.St} {D : Addr} {Qd : Hp → Prop} (hn : n ≤ 1000000) (Pv : Nat → List V → Hp → Prop) (h0 : Pv 0 [] (upd H1 D (.lst []))) (hL0 : ∀ i ys H, Pv i ys H → H D = some (.lst ys) ∧ ys.length = i)
    (hs : ∀ i ys H, i < n → Pv i ys H → ∀ (C : VK) (N : Hp → Prop), (∀ y H', H' D = some (.lst ys) → Pv (i + 1) (ys ++ [y]) (upd H' D (.lst (ys ++ [y]))) → C y H') → g (.int i) (wipe σ ks) H fun σ2 H2 => wipe σ2 ks = wipe σ ks ∧ tYes σ2 H2 fun b H3 => if b = true then te σ2 H3 C else N H3)
    (hd : ∀ ys H, Pv n ys H → Qd H) :
    ∃ W : Nat → Nat → Hp → Prop, (∃ m, W 0 m (upd H1 D (.lst []))) ∧ ∀ i m H, W i m H →
      ((Itr 0 n).stop i H ∧ Qd H) ∨ ((Itr 0 n).go i H ∧ ∃ Nx : Hp → Prop, (∀ H', Nx H' → ∃ m', m' < m ∧ W (i + 1) m' H') ∧ ∀ x H', (Itr 0 n).yld i H x H' → g x (wipe σ ks) H' fun σ2 H2 => wipe σ2 ks = wipe σ ks ∧ tYes σ2 H2 fun b H3 =>
        if b = true then te σ2 H3 fun y H4 => ∃ acc, H4 D = some (.lst acc) ∧ acc.length < sizeLine ∧ Nx (upd H4 D (.lst (acc ++ [y]))) else Nx H3) := by
  refine ⟨fun i m H => m = n - i ∧ i ≤ n ∧ ∃ ys, Pv i ys H, ⟨n, by simp, Nat.zero_le _, [], h0⟩, ?_⟩
  rintro i m H ⟨rfl, hi, ys, hp⟩
  obtain ⟨hL, hl⟩ := hL0 i ys H hp
  by_cases hlt : i < n
  · refine .inr ⟨hlt, fun H' => i + 1 ≤ n ∧ ∃ ys, Pv (i + 1) ys H', fun H' q => ⟨n - (i + 1), by omega, rfl, q⟩, fun x H' y => ?_⟩
    obtain ⟨e, rfl⟩ := y
    subst e
    rw [Int.zero_add]
    exact hs i ys H' hlt hp _ _ fun y H2 hL2 q => ⟨ys, hL2, szlt (by omega), hlt, _, q⟩
  · have e : i = n := by omega
    subst e
    exact .inl ⟨Nat.le_refl _, hd ys H hp⟩
/-! ### the hand -/
def HandAt (H : Hp) (h dl : Addr) : Prop := ∃ (ds : List Int) (i : Nat), H h = some (.lst [.ref dl, .int i]) ∧ H dl = some (.lst (ds.map V.int))
theorem HandAt.ne' {H : Hp} {h dl : Addr} {ds : List Int} {i : Nat} (h1 : H h = some (.lst [.ref dl, .int i])) (h2 : H dl = some (.lst (ds.map V.int))) : dl ≠ h := fun e => by
  rw [e, h1] at h2
  have := HO.lst.inj (Option.some.inj h2)
  cases ds with
  | nil => cases this
  | cons a r => cases this
theorem HandAt.same {H H' : Hp} {h dl : Addr} (s : Same H H') (a : HandAt H h dl) : HandAt H' h dl := by
  obtain ⟨ds, i, h1, h2⟩ := a
  exact ⟨ds, i, s _ _ h1, s _ _ h2⟩
theorem HandAt.tm {K : PySem.W.Frag} {H H' : Hp} {h dl : Addr} (a : HandAt H h dl) (b : But [h] H H') : Tm K H H' := by
  obtain ⟨ds, i, h1, h2⟩ := a
  exact b.tm fun z hz => by rw [List.mem_singleton.mp hz, h1]; trivial
theorem HandAt.off {H : Hp} {h dl p : Addr} (a : HandAt H h dl) (n : H p = none) : p ≠ h ∧ p ≠ dl := by
  obtain ⟨ds, i, h1, h2⟩ := a
  refine ⟨fun e => ?_, fun e => ?_⟩
  · rw [e, h1] at n; cases n
  · rw [e, h2] at n; cases n
theorem HandAt.upd {H : Hp} {h dl p : Addr} {o : HO} (a : HandAt H h dl) (n : p ≠ h ∧ p ≠ dl) : HandAt (L2.upd H p o) h dl := by
  obtain ⟨ds, i, h1, h2⟩ := a
  exact ⟨ds, i, by rw [upd_ne n.1.symm]; exact h1, by rw [upd_ne n.2.symm]; exact h2⟩
theorem But.add {H H' : Hp} {S : List Addr} {p : Addr} {o : HO} (b : But S H H') (n : H p = none) : But S H (L2.upd H' p o) := fun z u nz q => by
  rw [upd_ne (ne_of_none q n)]; exact b z u nz q
/-- what the hand's turns leave -/
theorem But.at {H H' : Hp} {h p : Addr} {o : HO} (b : But [h] H H') (q : H p = some o) (n : p ≠ h) : H' p = some o := b p o (by simpa using n) q
theorem sc_law_draws : FnScope ["_law_script", "_law_many", "_law_rests", "_law_cell", "_law_draws_here", "_law_k", "_law_at", "_law_mixed"] ["_law_script", "_law_many"] (defScope s_law_draws) := ⟨rfl, rfl, rfl, by decide +kernel, rfl, by decide +kernel, by decide +kernel⟩
theorem sc_law_take : FnScope ["_law_hand", "_law_many", "_law_at", "_law_draws_here"] ["_law_hand", "_law_many"] (defScope s_law_take) := ⟨rfl, rfl, rfl, by decide +kernel, rfl, by decide +kernel, by decide +kernel⟩
theorem sc_law_string : FnScope ["_law_hand", "_law_length", "_law_k"] ["_law_hand", "_law_length"] (defScope s_law_string) := ⟨rfl, rfl, rfl, by decide +kernel, rfl, by decide +kernel, by decide +kernel⟩
theorem sc_law_parts : FnScope ["_law_hand", "_law_length", "_law_found", "_law_k", "_law_kind"] ["_law_hand", "_law_length"] (defScope s_law_parts) := ⟨rfl, rfl, rfl, by decide +kernel, rfl, by decide +kernel, by decide +kernel⟩
def sp_law_draws (K : PySem.W.Frag) : Sp := fun vs H Q _ => ∃ (s : Addr) (m : Nat) (ns : List Int), vs = [.ref s, .int m] ∧ SqL K H s (ns.map V.int) ∧ ns.length ≤ 1000 ∧ m ≤ 1000 ∧ ∀ (d : Addr) (ds : List Int) H', Same H H' → H' d = some (.lst (ds.map V.int)) → Q (.ref d) H'
def sp_law_take : Sp := fun vs H Q _ => ∃ (h dl : Addr) (m : Nat), vs = [.ref h, .int m] ∧ HandAt H h dl ∧ 0 < m ∧ ∀ (v : Nat) H', v < m → But [h] H H' → HandAt H' h dl → Q (.int v) H'
def sp_law_string : Sp := fun vs H Q _ => ∃ (h dl : Addr) (m : Nat), vs = [.ref h, .int m] ∧ HandAt H h dl ∧ m ≤ 1000 ∧ ∀ (s : Bs) H', s.length = m → But [h] H H' → HandAt H' h dl → Q (vS s) H'
def sp_law_parts (K : PySem.W.Frag) : Sp := fun vs H Q _ => ∃ (h dl : Addr) (m : Nat), vs = [.ref h, .int m] ∧ HandAt H h dl ∧ m ≤ 1000 ∧ ∀ (p : Addr) (ps : List Part) H', ps.length = m → (∀ x ∈ ps, x.small 9) → But [h] H H' → HandAt H' h dl → SqT K H' p (ps.map partV) → Q (.ref p) H'
section
variable {P : Program} {w : World} {K : PySem.W.Frag} {mg : Str → Option Value} {base : Heap}
theorem ok_law_take (B : Bi mg) (G : Gi K mg) (D : Dfn K mg "_law_take" s_law_take)  : C8.Cal P w K mg base 1 "_law_take" (sp_law_take) [] := by
  refine D.cal sc_law_take (fun _ _ _ _ _ _ us hl => match us, hl with | [_, _], _ => rfl) (fun vs H Q E h => ?_) (fun f cdv A outer s H vs Q E hr h => ?_)
  · obtain ⟨h, dl, m, rfl, _⟩ := h
    rfl
  obtain ⟨h, dl, m, rfl, hA, hm, hQ⟩ := h
  obtain ⟨ds, i, h1, h2⟩ := hA
  have ne := HandAt.ne' h1 h2
  refine ⟨_, (pss_cons (ps_set (i := 2) sc_law_take.nd rfl (Or.inl rfl) (pe_ix ix_list (pv 0) pe_int (fun _ _ => rfl)))
    (pss_cons (ps_asg (pe_op op_add (pv 2) pe_int) (pg_sub (pv 0) pe_int set_list))
    (pss_cons (ps_set (i := 3) sc_law_take.nd rfl (Or.inl rfl) (pe_ix ix_list (pv 0) pe_int (fun _ _ => rfl)))
    (pss_cons (ps_if (pt_cmpR op_ge (pv 2) (pe_callB call_len_seq (by rfl) B.len PySem.boot_len (pa_cons (pv 3) pa_nil)) (nomark _)) (pss_one (ps_ret pe_int)) pss_nil)
    (pss_one (ps_ret (pe_op op_mod (pe_op op_fdiv (pe_callTy call_int1 (by rfl) B.int (by decide +kernel) (pa_cons (pe_ix ix_list (pv 3) (pv 2) (fun _ _ => rfl)) pa_nil)) pe_int) (pv 1)))))))), ?_⟩
  refine ⟨_, rfl, h, _, _, _, rfl, rfl, .inl (.inl h1), at1 _ _ _, ?_⟩
  refine ⟨_, rfl, _, _, rfl, rfl, _, rfl, h, _, 1, 1, rfl, rfl, h1, rfl, ?_⟩
  have b1 : But [h] H (upd H h (.lst [.ref dl, .int ((i + 1 : Nat) : Int)])) := But.upd (by simp)
  have hdl : upd H h (.lst [.ref dl, .int ((i + 1 : Nat) : Int)]) dl = some (.lst (ds.map V.int)) := by rw [upd_ne ne]; exact h2
  have hA1 : HandAt (upd H h (.lst [.ref dl, .int ((i + 1 : Nat) : Int)])) h dl := ⟨ds, i + 1, upd_same, hdl⟩
  refine ⟨_, rfl, h, _, _, .ref dl, rfl, rfl, .inl (.inl upd_same), at0 _ _, ?_⟩
  refine ⟨_, rfl, _, rfl, dl, _, rfl, .inl (.inl (.inl hdl)), _, _, rfl, rfl, _, rfl, ?_⟩
  refine ite2 (fun c => ?_) (fun c => ?_)
  · exact hQ 0 _ hm b1 hA1
  · have c := of_decide_eq_false (Bool.eq_false_iff.mpr c)
    rw [List.length_map] at c
    have hi : i < ds.length := by omega
    refine ⟨_, rfl, _, rfl, dl, _, _, .int ds[i], rfl, rfl, .inl (.inl hdl), atI_nat (by rw [List.getElem?_map, List.getElem?_eq_getElem hi]; rfl), .inl ⟨_, rfl, _, _, rfl, rfl, ⟨by decide, by decide⟩, _, rfl, _, _, rfl, rfl, by omega, ?_⟩⟩
    have m0 : (0 : Int) < (m : Int) := by omega
    have e0 := Int.emod_nonneg (ds[i] / 7) (show (m : Int) ≠ 0 by omega)
    have e1 := Int.emod_lt_of_pos (ds[i] / 7) m0
    have := hQ (ds[i] / 7 % (m : Int)).toNat _ (by omega) b1 hA1
    rw [Int.toNat_of_nonneg e0] at this
    exact this
theorem ok_law_draws (B : Bi mg) (G : Gi K mg) (D : Dfn K mg "_law_draws" s_law_draws)  : C8.Cal P w K mg base 1 "_law_draws" (sp_law_draws K) [] := by
  refine D.cal sc_law_draws (fun _ _ _ _ _ _ us hl => match us, hl with | [_, _], _ => rfl) (fun vs H Q E h => ?_) (fun f cdv A outer s H vs Q E hr h => ?_)
  · obtain ⟨s, m, ns, rfl, _⟩ := h
    rfl
  obtain ⟨s, m, ns, rfl, hS, hns, hm, hQ⟩ := h
  refine ⟨_, (pss_cons (ps_setLc (i := 2) (own := [("_law_cell", 3)]) (g := (gName 3)) (tt := tYes) rfl sc_law_draws.nd rfl rfl (sw_true rfl rfl rfl (by decide +kernel)) (pi_list (pv 0)) (blkOk_by (own := [("_law_cell", 3)]) (N := ["_law_script", "_law_many", "_law_rests", "_law_cell", "_law_draws_here", "_law_k", "_law_at", "_law_mixed"]) (sc := defScope s_law_draws) (by decide +kernel)) (fun _ _ _ _ _ => (pg_name (i := 3) sc_law_draws.nd rfl (Or.inl rfl))) (fun _ _ _ _ _ => pts_nil) (fun _ _ _ _ _ => (pe_callB call_abs (by rfl) B.abs (by decide +kernel) (pa_cons (pe_callTy call_int1 (by rfl) B.int (by decide +kernel) (pa_cons (pv 3) pa_nil)) pa_nil))))
    (pss_cons (ps_set (i := 4) sc_law_draws.nd rfl (Or.inl rfl) (pe_lst pa_nil))
    (pss_cons (ps_for PassesOwn.never rfl (pi_range1 rfl B.range (pa_cons (pv 1) pa_nil)) (pg_name (i := 5) sc_law_draws.nd rfl (Or.inl rfl)) (pss_cons (ps_set (i := 3) sc_law_draws.nd rfl (Or.inl rfl) (pv 5))
      (C8.pss_cut (ps_if (pt_cmpR op_gt (pe_callB call_len_seq (by rfl) B.len PySem.boot_len (pa_cons (pv 0) pa_nil)) pe_int (nomark _)) (pss_cons (ps_set (i := 6) sc_law_draws.nd rfl (Or.inl rfl) (pe_op op_mod (pv 5) (pe_callB call_len_seq (by rfl) B.len PySem.boot_len (pa_cons (pv 0) pa_nil))))
        (pss_cons (ps_set (i := 3) sc_law_draws.nd rfl (Or.inl rfl) (pe_callTy call_int1 (by rfl) B.int (by decide +kernel) (pa_cons (pe_ix ix_list (pv 0) (pv 6) (fun _ _ => rfl)) pa_nil)))
        (pss_one (ps_if (PW.pt (pw_and (pt_cmpR op_ge (pv 3) (pe_op op_pow pe_int pe_int) (nomark _)) (pw_and1 (pt_cmpR op_gt (pe_ix ix_list (pv 2) (pv 6) (fun _ _ => rfl)) pe_int (nomark _))))) (pss_cons (ps_expr (pe_bm PySem.F.plainAttrs_list PySem.F.slot_list_append PySem.F.type_list_append mt_append (pv 4) (pa_cons (pe_op op_mod (pe_callTy call_int1 (by rfl) B.int (by decide +kernel) (pa_cons (pe_ix ix_list (pv 2) (pv 6) (fun _ _ => rfl)) pa_nil)) pe_int) pa_nil)))
          (pss_cons (ps_asg (pe_op op_fdiv (pe_callTy call_int1 (by rfl) B.int (by decide +kernel) (pa_cons (pe_ix ix_list (pv 2) (pv 6) (fun _ _ => rfl)) pa_nil)) pe_int) (pg_sub (pv 2) (pv 6) set_list))
          (pss_one ps_continue))) pss_nil)))) pss_nil)
      (pss_cons (ps_set (i := 7) sc_law_draws.nd rfl (Or.inl rfl) (pe_op op_mod (pe_callTy call_int1 (by rfl) B.int (by decide +kernel) (pa_cons (pe_op op_add (pe_op op_add (pe_op op_mul (pv 3) pe_int) (pe_op op_mul (pv 5) pe_int)) pe_int) pa_nil)) pe_int))
      (pss_cons (ps_set (i := 7) sc_law_draws.nd rfl (Or.inl rfl) (pe_op op_mod (pe_callTy call_int1 (by rfl) B.int (by decide +kernel) (pa_cons (pe_op op_add (pe_op op_fdiv (pe_op op_mul (pv 7) (pv 7)) pe_int) (pv 7)) pa_nil)) pe_int))
      (pss_one (ps_expr (pe_bm PySem.F.plainAttrs_list PySem.F.slot_list_append PySem.F.type_list_append mt_append (pv 4) (pa_cons (pe_op op_mod (pe_callTy call_int1 (by rfl) B.int (by decide +kernel) (pa_cons (pe_op op_add (pe_op op_fdiv (pe_op op_mul (pv 7) (pv 7)) pe_int) (pe_op op_mul (pv 5) pe_int)) pa_nil)) pe_int) pa_nil)))))))))
    (pss_one (ps_ret (pv 4)))))), ?_⟩
  refine ⟨_, rfl, s, rfl, ⟨_, hS⟩, fun R hR => lcV K (wn_list hS) hR (by rw [List.length_map]; omega) (fun i => .int (if ns.getD i 0 < 0 then - ns.getD i 0 else ns.getD i 0)) (fun i H' hi s1 W hW => ?_) (fun H1 s1 hR1 => ?_)⟩
  · have hi : i < ns.length := by simpa using hi
    rw [map_getD hi]
    refine ⟨_, rfl, .inl ⟨_, rfl, _, rfl, ?_⟩⟩
    have := hW H' (Same.refl _)
    rw [List.getD_eq_getElem?_getD, List.getElem?_eq_getElem hi, Option.getD_some] at this
    exact this
  refine ⟨Nat.zero_le _, fun D hD => ?_⟩
  have sD := Same.new (o := .lst []) hD
  have nRD : R ≠ D := ne_of_none hR1 hD
  have hDH : H D = none := s1.none hD
  obtain ⟨rs0, hrs0, hrl0⟩ : ∃ rs : List Int, H1 R = some (.lst (rs.map V.int)) ∧ rs.length = ns.length := ⟨(List.range ns.length).map fun i => if ns.getD i 0 < 0 then - ns.getD i 0 else ns.getD i 0, by rw [hR1, List.length_map, List.map_map]; rfl, by simp⟩
  refine ⟨_, rfl, m, rfl, by omega, by omega, ?_⟩
  rw [Int.toNat_natCast]
  refine forW (H1 := fun _ => none) (wn_range (n := m)) (fun i σ H' => ∃ (u3 u5 u6 u7 : Option V) (rs ds : List Int), σ = [some (.ref s), some (.int m), some (.ref R), u3, some (.ref D), u5, u6, u7] ∧ Same H H' ∧ H' R = some (.lst (rs.map V.int)) ∧ rs.length = ns.length ∧ H' D = some (.lst (ds.map V.int)) ∧ ds.length = i) ⟨none, none, none, none, rs0, [], rfl, s1.trans sD, sD _ _ hrs0, hrl0, upd_same, rfl⟩ (fun i σ H' _ => fun b o e => by cases e) ?_ ?_
  · rintro i σ H' hi ⟨u3, u5, u6, u7, rs, ds, rfl, s2, hR2, hrl, hD2, hdl⟩
    refine ⟨_, rfl, ?_⟩
    refine ⟨fun σ' H'' => ∃ (cell : Int) (u6' : Option V), σ' = [some (.ref s), some (.int m), some (.ref R), some (.int cell), some (.ref D), some (.int (i : Nat)), u6', u7] ∧ H'' = H', ?_, ?_⟩
    · refine ⟨_, rfl, s, _, rfl, .inl (s2.seq hS), _, _, rfl, rfl, _, rfl, ?_⟩
      rw [List.length_map]
      refine ite2 (fun c => ?_) (fun c => ⟨_, _, rfl, rfl⟩)
      have c := of_decide_eq_true c
      have hn0 : 0 < ns.length := by omega
      refine ⟨_, rfl, _, rfl, s, _, rfl, .inl (s2.seq hS), _, _, rfl, rfl, by rw [List.length_map]; omega, ?_⟩
      dsimp only
      have eat : (i : Int) % ((ns.map V.int).length : Nat) = ((i % ns.length : Nat) : Int) := by rw [List.length_map]; exact (Int.natCast_emod _ _).symm
      rw [eat]
      have hat := Nat.mod_lt i hn0
      generalize i % ns.length = at0 at hat
      refine ⟨_, rfl, _, rfl, s, _, _, .int ns[at0], rfl, rfl, s2.seq hS, atI_nat (by rw [List.getElem?_map, List.getElem?_eq_getElem hat]; rfl), .inl ⟨_, rfl, ?_⟩⟩
      have har : at0 < rs.length := by omega
      have hget : atI (rs.map V.int) (at0 : Int) = some (.int rs[at0]) := atI_nat (by rw [List.getElem?_map, List.getElem?_eq_getElem har]; rfl)
      refine ⟨_, rfl, _, _, rfl, rfl, ⟨by decide, by decide, by decide⟩, _, _, rfl, rfl, _, rfl, ?_⟩
      refine ite2 (fun _ => ?_) (fun _ => ⟨_, _, rfl, rfl⟩)
      refine ⟨_, rfl, _, rfl, R, _, _, _, rfl, rfl, .inl (.inl hR2), hget, _, _, rfl, rfl, _, rfl, ?_⟩
      refine ite2 (fun _ => ?_) (fun _ => ⟨_, _, rfl, rfl⟩)
      have nRD2 : R ≠ D := nRD
      refine ⟨_, rfl, .inl ⟨rfl, _, .inl (.inl hD2)⟩, _, rfl, _, rfl, R, _, _, _, rfl, rfl, .inl (.inl hR2), hget, .inl ⟨_, rfl, _, _, rfl, rfl, (by show (0 : Int) < 1000003; decide), D, _, _, rfl, rfl, hD2, szlt (by rw [List.length_map]; omega), ?_⟩⟩
      have hR3 : ∀ o, upd H' D o R = some (.lst (rs.map V.int)) := fun o => by rw [upd_ne nRD2]; exact hR2
      refine ⟨_, rfl, _, rfl, R, _, _, _, rfl, rfl, .inl (.inl (hR3 _)), hget, .inl ⟨_, rfl, _, _, rfl, rfl, ⟨by decide, by decide⟩, _, rfl, _, rfl, R, _, _, at0, rfl, rfl, hR3 _, ?_, ?_⟩⟩
      · unfold ixN
        rw [List.length_map, if_pos (by omega), if_pos (by omega)]; simp
      · refine ⟨_, _, _, _, rs.set at0 (rs[at0] / 1000003), ds ++ [rs[at0] % 1000003], rfl, ?_, ?_, by rw [List.length_set]; exact hrl, ?_, by simp [hdl]⟩
        · exact L2.Same.mut (L2.Same.mut s2 hDH) hR
        · rw [upd_same, List.map_set]
        · rw [upd_ne nRD2.symm, upd_same, List.map_append]; rfl
    · rintro σ' H'' ⟨cell, u6', rfl, rfl⟩
      refine ⟨_, rfl, _, _, rfl, rfl, .inr ⟨by decide, by decide⟩, _, rfl, _, _, rfl, rfl, .inr ⟨by decide, by decide⟩, _, _, rfl, rfl, _, _, rfl, rfl, .inl ⟨_, rfl, _, _, rfl, rfl, (by show (0 : Int) < 2147483647; decide), ?_⟩⟩
      dsimp only
      generalize hmx : (cell * 48271 + (i : Int) * 69621 + 11) % 2147483647 = mx
      have m1 : 0 ≤ mx := by rw [← hmx]; exact Int.emod_nonneg _ (by decide)
      have m2 : mx < 2147483647 := by rw [← hmx]; exact Int.emod_lt_of_pos _ (by decide)
      refine ⟨_, rfl, _, rfl, _, _, rfl, rfl, .inr ⟨by omega, by omega⟩, _, _, rfl, rfl, ⟨by decide, by decide⟩, _, rfl, _, _, rfl, rfl, .inl ⟨_, rfl, _, _, rfl, rfl, (by show (0 : Int) < 2147483629; decide), ?_⟩⟩
      dsimp only
      generalize hmy : (mx * mx / 4096 + mx) % 2147483629 = my
      have y1 : 0 ≤ my := by rw [← hmy]; exact Int.emod_nonneg _ (by decide)
      have y2 : my < 2147483629 := by rw [← hmy]; exact Int.emod_lt_of_pos _ (by decide)
      refine ⟨_, rfl, .inl ⟨rfl, _, .inl (.inl hD2)⟩, _, rfl, _, rfl, _, _, rfl, rfl, .inr ⟨by omega, by omega⟩, _, _, rfl, rfl, ⟨by decide, by decide⟩, _, rfl, _, _, rfl, rfl, .inr ⟨by decide, by decide⟩, _, _, rfl, rfl, .inl ⟨_, rfl, _, _, rfl, rfl, (by show (0 : Int) < 2147483629; decide), D, _, _, rfl, rfl, hD2, szlt (by rw [List.length_map]; omega), ?_⟩⟩
      refine ⟨_, _, _, _, rs, ds ++ [(my * my / 4096 + (i : Int) * 7919) % 2147483629], rfl, L2.Same.mut s2 hDH, ?_, hrl, ?_, by simp [hdl]⟩
      · rw [upd_ne nRD]; exact hR2
      · rw [upd_same, List.map_append]; rfl
  · rintro σ H' ⟨u3, u5, u6, u7, rs, ds, rfl, s2, hR2, hrl, hD2, hdl⟩
    exact ⟨_, rfl, hQ D ds H' s2 hD2⟩
end
end BB
set_option maxHeartbeats 4000000
namespace BB
open PySem PySem.Spec PyProof.Rows L2
theorem sc_law_table : FnScope ["_law_hand", "_law_n", "_law_m", "_law_rows", "_law_k"] ["_law_hand", "_law_n", "_law_m"] (defScope s_law_table) := ⟨rfl, rfl, rfl, by decide +kernel, rfl, by decide +kernel, by decide +kernel⟩
theorem sc_law_function : FnScope ["_law_hand", "_law_n", "_law_l", "_law_m", "_law_rows", "_law_key", "_law_k"] ["_law_hand", "_law_n", "_law_l", "_law_m"] (defScope s_law_function) := ⟨rfl, rfl, rfl, by decide +kernel, rfl, by decide +kernel, by decide +kernel⟩
def sp_law_table (K : PySem.W.Frag) : Sp := fun vs H Q _ => ∃ (h dl : Addr) (n m : Nat), vs = [.ref h, .int n, .int m] ∧ HandAt H h dl ∧ n ≤ 4 ∧ m ≤ 40 ∧ ∀ (p : Addr) (rows : List Bs) (H' : Hp), GenOk rows n m → But [h] H H' → HandAt H' h dl → GenAt K H' p n m rows → Q (.ref p) H'
def sp_law_function (K : PySem.W.Frag) : Sp := fun vs H Q _ => ∃ (h dl : Addr) (n l m : Nat), vs = [.ref h, .int n, .int l, .int m] ∧ HandAt H h dl ∧ n ≤ 4 ∧ l ≤ 4 ∧ m ≤ 40 ∧ ∀ (p : Addr) (tb : List (List Bs)) (H' : Hp), TabOk tb n l m → But [h] H H' → HandAt H' h dl → FunAt K H' p n l m tb → Q (.ref p) H'
/-- the texts drawn so far -/
def TxtPv (H : Hp) (h dl D : Addr) (m : Nat) (i : Nat) (ys : List V) (H' : Hp) : Prop := ∃ rows : List Bs, ys = rows.map vS ∧ rows.length = i ∧ (∀ r ∈ rows, r.length = m) ∧ But [h] H H' ∧ HandAt H' h dl ∧ H' D = some (.lst ys)
theorem TxtPv.next {H : Hp} {h dl D : Addr} {m i : Nat} {ys : List V} {H' H2 : Hp} {s : Bs} (a : HandAt H h dl) (hD : H D = none) (p : TxtPv H h dl D m i ys H') (hs : s.length = m) (b : But [h] H' H2) (a2 : HandAt H2 h dl) : H2 D = some (.lst ys) ∧ TxtPv H h dl D m (i + 1) (ys ++ [vS s]) (upd H2 D (.lst (ys ++ [vS s]))) := by
  obtain ⟨rows, e, hl, hr, hb, ha, hL⟩ := p
  have n := a.off hD
  refine ⟨b.at hL n.1, rows ++ [s], by rw [e]; simp, by simp [hl], ?_, (hb.trans b).add hD, a2.upd n, upd_same⟩
  intro r hr'
  rcases List.mem_append.mp hr' with q | q
  · exact hr r q
  · rw [List.mem_singleton.mp q]; exact hs
section
variable {P : Program} {w : World} {K : PySem.W.Frag} {mg : Str → Option Value} {base : Heap}
theorem ok_law_string (B : Bi mg) (G : Gi K mg) (D : Dfn K mg "_law_string" s_law_string)  (c_law_take : C8.Cal P w K mg base 1 "_law_take" sp_law_take []) : C8.Cal P w K mg base 2 "_law_string" (sp_law_string) [] := by
  refine D.cal sc_law_string (fun _ _ _ _ _ _ us hl => match us, hl with | [_, _], _ => rfl) (fun vs H Q E h => ?_) (fun f cdv A outer s H vs Q E hr h => ?_)
  · obtain ⟨h, dl, m, rfl, _⟩ := h
    rfl
  obtain ⟨h, dl, m, rfl, hA, hm, hQ⟩ := h
  refine ⟨_, (pss_one (ps_ret (pe_join pe_str (pe_lc (own := [("_law_k", 2)]) (g := (gName 2)) (tt := tYes) rfl sc_law_string.nd (pi_range1 rfl B.range (pa_cons (pv 1) pa_nil)) (blkOk_by (own := [("_law_k", 2)]) (N := ["_law_hand", "_law_length", "_law_k"]) (sc := defScope s_law_string) (by decide +kernel)) (fun _ _ _ _ _ => (pg_name (i := 2) sc_law_string.nd rfl (Or.inl rfl))) (fun _ _ _ _ _ => pts_nil) (fun _ _ _ _ _ => (pe_ix (show IxR _ (rIxL K) from ix_list) (pe_lst (pa_cons pe_str (pa_cons pe_str pa_nil))) (C8.pe_c c_law_take hr (by omega) rfl (pa_cons (pv 0) (pa_cons pe_int pa_nil))) (fun _ _ => rfl))))))), ?_⟩
  refine ⟨⟨_, rfl⟩, _, rfl, m, rfl, by omega, by omega, fun D hD => ?_⟩
  rw [Int.toNat_natCast]
  have nD := hA.off hD
  refine lcRg (n := m) (by omega) (fun i ys H' => ∃ bs : Bs, ys = (bs.map fun b => vS [b]) ∧ bs.length = i ∧ But [h] H H' ∧ HandAt H' h dl ∧ H' D = some (.lst ys)) ⟨[], rfl, rfl, (Same.new hD).but, hA.upd nD, upd_same⟩ (fun i ys H' ⟨bs, e, hl, _, _, hL⟩ => ⟨hL, by rw [e, List.length_map, hl]⟩) ?_ ?_
  · rintro i ys H' hi ⟨bs, rfl, hl, hb, hA1, hL⟩ C N hC
    refine ⟨rfl, ?_⟩
    unfold tYes
    dsimp only
    rw [if_pos rfl]
    refine ⟨(by show 2 ≤ sizeLine; decide), fun l hl0 => ?_⟩
    have sl := Same.new (o := .lst [V.str "0", V.str "1"]) hl0
    have nl := hA1.off hl0
    refine ⟨_, rfl, h, dl, 2, rfl, hA1.same sl, by decide, fun v H2 hv hb2 hA2 => ?_⟩
    have hl2 := hb2.at (upd_same (H := H') (a := l) (o := .lst [V.str "0", V.str "1"])) nl.1
    have hval : ∃ b : Bool, atI [V.str "0", V.str "1"] (v : Int) = some (vS [b]) := by
      match v, hv with
      | 0, _ => exact ⟨false, by rw [show V.str "0" = vS [false] from congrArg V.str s0]; rfl⟩
      | 1, _ => exact ⟨true, by rw [show V.str "1" = vS [true] from congrArg V.str s1]; rfl⟩
    obtain ⟨b, hb3⟩ := hval
    refine ⟨l, _, _, vS [b], rfl, rfl, .inl (.inl hl2), hb3, hC _ _ ((sl.but.trans hb2).at hL nD.1) ⟨bs ++ [b], by simp, by simp [hl], (hb.trans (sl.but.trans hb2)).add hD, hA2.upd nD, upd_same⟩⟩
  · rintro ys H' ⟨bs, rfl, hl, hb, hA1, hL⟩
    refine ⟨_, D, bs.map (fun b => sOf [b]), rfl, rfl, .inl (.inl (.inl ?_)), ?_, ?_⟩
    · rw [List.map_map]; exact hL
    · rw [sumlen, List.length_map, sE, sOf_len, List.length_nil]
      omega
    · rw [sE, join_bits]
      exact hQ bs H' hl hb hA1
theorem ok_law_parts (B : Bi mg) (G : Gi K mg) (D : Dfn K mg "_law_parts" s_law_parts)  (c_law_take : C8.Cal P w K mg base 1 "_law_take" sp_law_take []) : C8.Cal P w K mg base 2 "_law_parts" (sp_law_parts K) [] := by
  refine D.cal sc_law_parts (fun _ _ _ _ _ _ us hl => match us, hl with | [_, _], _ => rfl) (fun vs H Q E h => ?_) (fun f cdv A outer s H vs Q E hr h => ?_)
  · obtain ⟨h, dl, m, rfl, _⟩ := h
    rfl
  obtain ⟨h, dl, m, rfl, hA, hm, hQ⟩ := h
  refine ⟨_, (pss_cons (ps_set (i := 2) sc_law_parts.nd rfl (Or.inl rfl) (pe_lst pa_nil))
    (pss_cons (ps_for PassesOwn.never rfl (pi_range1 rfl B.range (pa_cons (pv 1) pa_nil)) (pg_name (i := 3) sc_law_parts.nd rfl (Or.inl rfl)) (pss_cons (ps_set (i := 4) sc_law_parts.nd rfl (Or.inl rfl) (C8.pe_c c_law_take hr (by omega) rfl (pa_cons (pv 0) (pa_cons pe_int pa_nil))))
      (pss_one (ps_if (pt_cmpR op_lt (pv 4) pe_int (nomark _)) (pss_one (ps_expr (pe_bm PySem.F.plainAttrs_list PySem.F.slot_list_append PySem.F.type_list_append mt_append (pv 2) (pa_cons (pe_ix ix_list (pe_lst (pa_cons pe_str (pa_cons pe_str pa_nil))) (pv 4) (fun _ _ => rfl)) pa_nil)))) (pss_one (ps_expr (pe_bm PySem.F.plainAttrs_list PySem.F.slot_list_append PySem.F.type_list_append mt_append (pv 2) (pa_cons (C8.pe_c c_law_take hr (by omega) rfl (pa_cons (pv 0) (pa_cons pe_int pa_nil))) pa_nil))))))))
    (pss_one (ps_ret (pe_callTy (T := "tuple") call_tuple_of (by rfl) B.tuple (by decide +kernel) (pa_cons (pv 2) pa_nil)))))), ?_⟩
  refine ⟨Nat.zero_le _, fun F hF => ?_⟩
  have nF := hA.off hF
  refine ⟨_, rfl, m, rfl, by omega, by omega, ?_⟩
  rw [Int.toNat_natCast]
  refine forW (H1 := fun _ => none) (wn_range (n := m)) (fun i σ H' => ∃ (u3 u4 : Option V) (ps : List Part), σ = [some (.ref h), some (.int m), some (.ref F), u3, u4] ∧ ps.length = i ∧ (∀ x ∈ ps, x.small 9) ∧ But [h] H H' ∧ HandAt H' h dl ∧ H' F = some (.lst (ps.map partV))) ⟨none, none, [], rfl, rfl, (fun x hx => by cases hx), (Same.new hF).but, hA.upd nF, upd_same⟩ (fun i σ H' _ => fun b o e => by cases e) ?_ ?_
  · rintro i σ H' hi ⟨u3, u4, ps, rfl, hl, hsm, hb, hA1, hL⟩
    refine ⟨_, rfl, h, dl, 5, rfl, hA1, by decide, fun v H2 hv hb2 hA2 => ?_⟩
    have hL2 := hb2.at hL nF.1
    have hb12 := hb.trans hb2
    refine ⟨_, rfl, _, _, rfl, rfl, _, rfl, ?_⟩
    refine ite2 (fun c => ?_) (fun c => ?_)
    · have c := of_decide_eq_true c
      refine ⟨_, rfl, .inl ⟨rfl, _, .inl (.inl hL2)⟩, (by show 2 ≤ sizeLine; decide), fun l hl0 => ?_⟩
      have sl := Same.new (o := .lst [V.str "0", V.str "1"]) hl0
      have hval : ∃ b : Bool, atI [V.str "0", V.str "1"] (v : Int) = some (vS [b]) := by
        match v, (show v < 2 by omega) with
        | 0, _ => exact ⟨false, by rw [show V.str "0" = vS [false] from congrArg V.str s0]; rfl⟩
        | 1, _ => exact ⟨true, by rw [show V.str "1" = vS [true] from congrArg V.str s1]; rfl⟩
      obtain ⟨b, hb3⟩ := hval
      refine ⟨_, rfl, l, _, _, vS [b], rfl, rfl, .inl (.inl upd_same), hb3, F, _, _, rfl, rfl, sl _ _ hL2, szlt (by rw [List.length_map]; omega), ?_⟩
      refine ⟨_, _, ps ++ [.lit b], rfl, by simp [hl], ?_, (hb12.trans sl.but).add hF, (hA2.same sl).upd nF, by rw [upd_same]; simp [partV]⟩
      intro x hx
      rcases List.mem_append.mp hx with q | q
      · exact hsm x q
      · rw [List.mem_singleton.mp q]; trivial
    · refine ⟨_, rfl, .inl ⟨rfl, _, .inl (.inl hL2)⟩, _, rfl, h, dl, 9, rfl, hA2, by decide, fun x H3 hx hb3 hA3 => ?_⟩
      have hL3 := hb3.at hL2 nF.1
      refine ⟨F, _, _, rfl, rfl, hL3, szlt (by rw [List.length_map]; omega), ?_⟩
      refine ⟨_, _, ps ++ [.bit x], rfl, by simp [hl], ?_, (hb12.trans hb3).add hF, hA3.upd nF, by rw [upd_same]; simp [partV]⟩
      intro y hy
      rcases List.mem_append.mp hy with q | q
      · exact hsm y q
      · rw [List.mem_singleton.mp q]
        show x ≤ 9
        omega
  · rintro σ H' ⟨u3, u4, ps, rfl, hl, hsm, hb, hA1, hL⟩
    refine ⟨_, rfl, F, _, rfl, .inl ⟨.inl (.inl hL), fun t ht => ?_⟩⟩
    have st := Same.new (o := .tup (ps.map partV)) ht
    exact hQ t ps _ hl hsm (hb.trans st.but) (hA1.same st) (.inl (.inl upd_same))
theorem ok_law_table (B : Bi mg) (G : Gi K mg) (D : Dfn K mg "_law_table" s_law_table)  (c_law_string : C8.Cal P w K mg base 2 "_law_string" sp_law_string []) : C8.Cal P w K mg base 3 "_law_table" (sp_law_table K) [] := by
  refine D.cal sc_law_table (fun _ _ _ _ _ _ us hl => match us, hl with | [_, _, _], _ => rfl) (fun vs H Q E h => ?_) (fun f cdv A outer s H vs Q E hr h => ?_)
  · obtain ⟨h, dl, n, m, rfl, _⟩ := h
    rfl
  obtain ⟨h, dl, n, m, rfl, hA, hn, hm, hQ⟩ := h
  refine ⟨_, (pss_cons (ps_setLc (i := 3) (own := [("_law_k", 4)]) (g := (gName 4)) (tt := tYes) rfl sc_law_table.nd rfl rfl (sw_true rfl rfl rfl (by decide +kernel)) (pi_range1 rfl B.range (pa_cons (pe_op op_shl pe_int (pv 1)) pa_nil)) (blkOk_by (own := [("_law_k", 4)]) (N := ["_law_hand", "_law_n", "_law_m", "_law_rows", "_law_k"]) (sc := defScope s_law_table) (by decide +kernel)) (fun _ _ _ _ _ => (pg_name (i := 4) sc_law_table.nd rfl (Or.inl rfl))) (fun _ _ _ _ _ => pts_nil) (fun _ _ _ _ _ => (C8.pe_c c_law_string hr (by omega) rfl (pa_cons (pv 0) (pa_cons (pv 2) pa_nil)))))
    (pss_one (ps_ret (pe_tup (pa_cons pe_str (pa_cons (pv 1) (pa_cons (pv 2) (pa_cons (pe_callTy (T := "tuple") call_tuple_of (by rfl) B.tuple (by decide +kernel) (pa_cons (pv 3) pa_nil)) pa_nil)))))))), ?_⟩
  obtain ⟨N, hN⟩ : ∃ N : Nat, N = 2 ^ n := ⟨_, rfl⟩
  have N16 : N ≤ 16 := by rw [hN]; exact Nat.pow_le_pow_right (n := 2) (by decide) hn
  have sh : (1 : Int) * 2 ^ ((n : Int).toNat) = (N : Int) := by rw [hN]; exact shl1 n
  refine ⟨_, rfl, _, _, rfl, rfl, ⟨by omega, by omega, by decide⟩, (N : Int), congrArg (fun z => [V.int z]) sh, by omega, by omega, fun D hD => ?_⟩
  rw [Int.toNat_natCast]
  have nD := hA.off hD
  refine lcRg (n := N) (by omega) (TxtPv H h dl D m) ⟨[], rfl, rfl, (fun r hr => by cases hr), (Same.new hD).but, hA.upd nD, upd_same⟩ (fun i ys H' ⟨bs, e, hl, _, _, _, hL⟩ => ⟨hL, by rw [e, List.length_map, hl]⟩) ?_ ?_
  · rintro i ys H' hi hp C N' hC
    refine ⟨rfl, ?_⟩
    unfold tYes
    dsimp only
    rw [if_pos rfl]
    obtain ⟨rows, e, hl, hr, hb, hA1, hL⟩ := id hp
    refine ⟨_, rfl, _, rfl, h, dl, m, rfl, hA1, by omega, fun s H2 hs hb2 hA2 => ?_⟩
    obtain ⟨q1, q2⟩ := hp.next hA hD hs hb2 hA2
    exact hC _ _ q1 q2
  · rintro ys H' ⟨rows, rfl, hl, hr, hb, hA1, hL⟩
    refine ⟨_, rfl, _, rfl, _, rfl, D, _, rfl, .inl ⟨.inl (.inl hL), fun t ht => ?_⟩⟩
    have st := Same.new (o := .tup (rows.map vS)) ht
    refine ⟨(by show 4 ≤ sizeLine; decide), fun p hp => ?_⟩
    have sp := Same.new (o := .tup [.str "generator", .int n, .int m, .ref t]) hp
    exact hQ p rows _ ⟨by rw [hl, hN], hr⟩ (hb.trans (st.trans sp).but) (hA1.same (st.trans sp)) ⟨t, .inl (.inl upd_same), sp.tm _ _ (.inl (.inl upd_same))⟩
theorem ok_law_function (B : Bi mg) (G : Gi K mg) (D : Dfn K mg "_law_function" s_law_function)  (c_law_string : C8.Cal P w K mg base 2 "_law_string" sp_law_string []) : C8.Cal P w K mg base 3 "_law_function" (sp_law_function K) [] := by
  refine D.cal sc_law_function (fun _ _ _ _ _ _ us hl => match us, hl with | [_, _, _, _], _ => rfl) (fun vs H Q E h => ?_) (fun f cdv A outer s H vs Q E hr h => ?_)
  · obtain ⟨h, dl, n, l, m, rfl, _⟩ := h
    rfl
  obtain ⟨h, dl, n, l, m, rfl, hA, hn, hl4, hm, hQ⟩ := h
  refine ⟨_, (pss_cons (ps_set (i := 4) sc_law_function.nd rfl (Or.inl rfl) (pe_lst pa_nil))
    (pss_cons (ps_for PassesOwn.never rfl (pi_range1 rfl B.range (pa_cons (pe_op op_shl pe_int (pv 1)) pa_nil)) (pg_name (i := 5) sc_law_function.nd rfl (Or.inl rfl)) (pss_one (ps_expr (pe_bm PySem.F.plainAttrs_list PySem.F.slot_list_append PySem.F.type_list_append mt_append (pv 4) (pa_cons (pe_callTy (T := "tuple") call_tuple_of (by rfl) B.tuple (by decide +kernel) (pa_cons (pe_lc (own := [("_law_k", 6)]) (g := (gName 6)) (tt := tYes) rfl sc_law_function.nd (pi_range1 rfl B.range (pa_cons (pe_op op_shl pe_int (pv 2)) pa_nil)) (blkOk_by (own := [("_law_k", 6)]) (N := ["_law_hand", "_law_n", "_law_l", "_law_m", "_law_rows", "_law_key", "_law_k"]) (sc := defScope s_law_function) (by decide +kernel)) (fun _ _ _ _ _ => (pg_name (i := 6) sc_law_function.nd rfl (Or.inl rfl))) (fun _ _ _ _ _ => pts_nil) (fun _ _ _ _ _ => (C8.pe_c c_law_string hr (by omega) rfl (pa_cons (pv 0) (pa_cons (pv 3) pa_nil))))) pa_nil)) pa_nil)))))
    (pss_one (ps_ret (pe_tup (pa_cons pe_str (pa_cons (pv 1) (pa_cons (pv 2) (pa_cons (pv 3) (pa_cons (pe_callTy (T := "tuple") call_tuple_of (by rfl) B.tuple (by decide +kernel) (pa_cons (pv 4) pa_nil)) pa_nil)))))))))), ?_⟩
  obtain ⟨N, hN⟩ : ∃ N : Nat, N = 2 ^ n := ⟨_, rfl⟩
  have N16 : N ≤ 16 := by rw [hN]; exact Nat.pow_le_pow_right (n := 2) (by decide) hn
  have sh : (1 : Int) * 2 ^ ((n : Int).toNat) = (N : Int) := by rw [hN]; exact shl1 n
  obtain ⟨L, hL⟩ : ∃ L : Nat, L = 2 ^ l := ⟨_, rfl⟩
  have L16 : L ≤ 16 := by rw [hL]; exact Nat.pow_le_pow_right (n := 2) (by decide) hl4
  have shl : (1 : Int) * 2 ^ ((l : Int).toNat) = (L : Int) := by rw [hL]; exact shl1 l
  refine ⟨Nat.zero_le _, fun F hF => ?_⟩
  have nF := hA.off hF
  refine ⟨_, rfl, _, _, rfl, rfl, ⟨by omega, by omega, by decide⟩, (N : Int), congrArg (fun z => [V.int z]) sh, by omega, by omega, ?_⟩
  rw [Int.toNat_natCast]
  refine forW (H1 := fun _ => none) (wn_range (n := N)) (fun i σ H' => ∃ (u5 : Option V) (tb : List (List Bs)) (qs : List Addr), σ = [some (.ref h), some (.int n), some (.int l), some (.int m), some (.ref F), u5, none] ∧ tb.length = i ∧ (∀ r ∈ tb, r.length = 2 ^ l ∧ ∀ x ∈ r, x.length = m) ∧ But [h] H H' ∧ HandAt H' h dl ∧ H' F = some (.lst (qs.map V.ref)) ∧ TblAt K H' qs tb) ⟨none, [], [], rfl, rfl, (fun x hx => by cases hx), (Same.new hF).but, hA.upd nF, upd_same, rfl, fun i q r e => by simp at e⟩ (fun i σ H' _ => fun b o e => by cases e) ?_ ?_
  · rintro i σ H' hi ⟨u5, tb, qs, rfl, hl, hr, hb, hA1, hF1, hT⟩
    refine ⟨_, rfl, .inl ⟨rfl, _, .inl (.inl hF1)⟩, _, rfl, _, _, rfl, rfl, ⟨by omega, by omega, by decide⟩, (L : Int), congrArg (fun z => [V.int z]) shl, by omega, by omega, fun D hD => ?_⟩
    rw [Int.toNat_natCast]
    have nD := hA1.off hD
    refine lcRg (n := L) (by omega) (TxtPv H' h dl D m) ⟨[], rfl, rfl, (fun r hr => by cases hr), (Same.new hD).but, hA1.upd nD, upd_same⟩ (fun i ys H' ⟨bs, e, hl, _, _, _, hL⟩ => ⟨hL, by rw [e, List.length_map, hl]⟩) ?_ ?_
    · rintro j ys H2 hj hp C N' hC
      refine ⟨rfl, ?_⟩
      unfold tYes
      dsimp only
      rw [if_pos rfl]
      obtain ⟨rows, e, hl2, hr2, hb2, hA2, hL2⟩ := id hp
      refine ⟨_, rfl, _, rfl, h, dl, m, rfl, hA2, by omega, fun s H3 hs hb3 hA3 => ?_⟩
      obtain ⟨q1, q2⟩ := hp.next hA1 hD hs hb3 hA3
      exact hC _ _ q1 q2
    · rintro ys H2 ⟨rows, rfl, hl2, hr2, hb2, hA2, hD2⟩
      refine ⟨D, _, rfl, .inl ⟨.inl (.inl hD2), fun t ht => ?_⟩⟩
      have st := Same.new (o := .tup (rows.map vS)) ht
      have hF2 := st _ _ (hb2.at hF1 nF.1)
      have tmF := Tm.lst (K := K) (o := .lst (qs.map V.ref ++ [V.ref t])) hF2
      refine ⟨F, _, _, rfl, rfl, hF2, szlt (by rw [List.length_map, hT.1]; omega), ?_⟩
      refine ⟨_, tb ++ [rows], qs ++ [t], rfl, by simp [hl], ?_, ((hb.trans hb2).trans st.but).add hF, (hA2.same st).upd nF, by rw [upd_same, List.map_append]; rfl, by simp [hT.1], ?_⟩
      · intro r hr'
        rcases List.mem_append.mp hr' with q | q
        · exact hr r q
        · rw [List.mem_singleton.mp q]; exact ⟨by rw [hl2, hL], hr2⟩
      · intro j q r e1 e2
        by_cases hj : j < qs.length
        · rw [List.getElem?_append_left hj] at e1
          rw [List.getElem?_append_left (by rw [← hT.1]; exact hj)] at e2
          exact tmF _ _ (st.tm _ _ ((hA1.tm hb2) _ _ (hT.2 j q r e1 e2)))
        · have ej : j = qs.length := by
            have := (List.getElem?_eq_some_iff.mp e1).1
            simp at this; omega
          subst ej
          rw [List.getElem?_append_right (Nat.le_refl _)] at e1
          rw [hT.1, List.getElem?_append_right (Nat.le_refl _)] at e2
          simp at e1 e2
          subst e1 e2
          exact tmF _ _ (.inl (.inl upd_same))
  · rintro σ H' ⟨u5, tb, qs, rfl, hl, hr, hb, hA1, hF1, hT⟩
    refine ⟨_, rfl, _, rfl, _, rfl, _, rfl, F, _, rfl, .inl ⟨.inl (.inl hF1), fun t ht => ?_⟩⟩
    have st := Same.new (o := .tup (qs.map V.ref)) ht
    refine ⟨(by show 5 ≤ sizeLine; decide), fun p hp => ?_⟩
    have sp := Same.new (o := .tup [.str "function", .int n, .int l, .int m, .ref t]) hp
    exact hQ p tb _ ⟨by rw [hl, hN], hr⟩ (hb.trans (st.trans sp).but) (hA1.same (st.trans sp)) ⟨t, qs, .inl (.inl upd_same), sp.tm _ _ (.inl (.inl upd_same)), hT.1, fun i q r e1 e2 => (st.trans sp).tm _ _ (hT.2 i q r e1 e2)⟩
end
end BB
set_option maxHeartbeats 4000000
namespace BB
open PySem PySem.Spec PyProof.Rows L2
theorem sc_law_gcd : FnScope ["_law_a", "_law_b", "_law_rest"] ["_law_a", "_law_b"] (defScope s_law_gcd) := ⟨rfl, rfl, rfl, by decide +kernel, rfl, by decide +kernel, by decide +kernel⟩
theorem sc_law_fraction : FnScope ["_law_num", "_law_den", "_law_common"] ["_law_num", "_law_den"] (defScope s_law_fraction) := ⟨rfl, rfl, rfl, by decide +kernel, rfl, by decide +kernel, by decide +kernel⟩
theorem sc_law_not_above : FnScope ["_law_first", "_law_second"] ["_law_first", "_law_second"] (defScope s_law_not_above) := ⟨rfl, rfl, rfl, by decide +kernel, rfl, by decide +kernel, by decide +kernel⟩
theorem sc_law_breaker : FnScope ["_law_hand", "_law_depth", "_law_asks", "_law_length", "_law_said", "_law_kind", "_law_size", "_law_first", "_law_many", "_law_k"] ["_law_hand", "_law_depth", "_law_asks", "_law_length", "_law_said"] (defScope s_law_breaker) := ⟨rfl, rfl, rfl, by decide +kernel, rfl, by decide +kernel, by decide +kernel⟩
def sp_law_gcd : Sp := fun vs H Q _ => ∃ (a b : Nat), vs = [.int a, .int b] ∧ b < 1073741824 ∧ Q (.int (Nat.gcd a b : Nat)) H
def sp_law_fraction (K : PySem.W.Frag) : Sp := fun vs H Q _ => ∃ (n : Int) (d : Nat), vs = [.int n, .int d] ∧ 0 < d ∧ d < 1073741824 ∧ ∀ p H', Same H H' → FrAt K H' p ((n : Rat) / (d : Rat)) → Q (.ref p) H'
def sp_law_not_above (K : PySem.W.Frag) : Sp := fun vs H Q _ => ∃ (a b : Addr) (x y : Rat), vs = [.ref a, .ref b] ∧ FrAt K H a x ∧ FrAt K H b y ∧ x.den < 2 ^ 40 ∧ y.den < 2 ^ 40 ∧ ∀ r : Bool, (r = true ↔ x ≤ y) → Q (.bl r) H
def sp_law_breaker (K : PySem.W.Frag) (d : Nat) : Sp := fun vs H Q _ => ∃ (h dl : Addr) (asks len said : Nat), vs = [.ref h, .int (d : Nat), .int (asks : Nat), .int len, .int said] ∧ HandAt H h dl ∧ len ≤ 9 ∧ said ≤ 9 ∧
  ∀ v b H', b.good 9 → b.depth ≤ d + 1 → b.asks ≤ asks → But [h] H H' → HandAt H' h dl → BrkAt K H' b v → Q v H'
theorem say_ok {ps : List Part} (hl : ps.length ≤ 9) (hs : ∀ x ∈ ps, x.small 9) (d a : Nat) : (Brk.say ps).good 9 ∧ (Brk.say ps).depth ≤ d + 1 ∧ (Brk.say ps).asks ≤ a := by
  refine ⟨?_, ?_, ?_⟩
  · rw [Brk.good]; exact ⟨hl, hs⟩
  · rw [Brk.depth]; omega
  · rw [Brk.asks]; exact Nat.zero_le _
theorem depthL_le {c : Nat} : ∀ {bs : List Brk}, (∀ b ∈ bs, b.depth ≤ c) → depthL bs ≤ c
  | [], _ => by rw [depthL]; exact Nat.zero_le _
  | b :: bs, h => by
    rw [depthL]
    have := h b List.mem_cons_self
    have := depthL_le (bs := bs) (c := c) fun x hx => h x (List.mem_cons_of_mem _ hx)
    omega
theorem asksL_le {c : Nat} : ∀ {bs : List Brk}, (∀ b ∈ bs, b.asks ≤ c) → asksL bs ≤ c
  | [], _ => by rw [asksL]; exact Nat.zero_le _
  | b :: bs, h => by
    rw [asksL]
    have := h b List.mem_cons_self
    have := asksL_le (bs := bs) (c := c) fun x hx => h x (List.mem_cons_of_mem _ hx)
    omega
section
variable {P : Program} {w : World} {K : PySem.W.Frag} {mg : Str → Option Value} {base : Heap}
theorem ok_law_gcd (B : Bi mg) (G : Gi K mg) (D : Dfn K mg "_law_gcd" s_law_gcd)  : C8.Cal P w K mg base 1 "_law_gcd" (sp_law_gcd) [] := by
  refine D.cal sc_law_gcd (fun _ _ _ _ _ _ us hl => match us, hl with | [_, _], _ => rfl) (fun vs H Q E h => ?_) (fun f cdv A outer s H vs Q E hr h => ?_)
  · obtain ⟨a, b, rfl, _⟩ := h
    rfl
  obtain ⟨a, b, rfl, hb, hQ⟩ := h
  refine ⟨_, (pss_cons (ps_while PassesOwn.never (pt_cmpR op_gt (pv 1) pe_int (nomark _)) (pss_cons (ps_set (i := 2) sc_law_gcd.nd rfl (Or.inl rfl) (pe_op op_sub (pv 0) (pe_op op_mul (pe_op op_fdiv (pv 0) (pv 1)) (pv 1))))
      (pss_cons (ps_set (i := 0) sc_law_gcd.nd rfl (Or.inl rfl) (pv 1))
      (pss_one (ps_set (i := 1) sc_law_gcd.nd rfl (Or.inl rfl) (pv 2))))))
    (pss_one (ps_ret (pv 0)))), ?_⟩
  refine ⟨fun m σ H' => ∃ (a' b' : Nat) (u : Option V), σ = [some (.int (a' : Nat)), some (.int (b' : Nat)), u] ∧ H' = H ∧ b' < 1073741824 ∧ Nat.gcd a' b' = Nat.gcd a b ∧ m = b', ⟨b, a, b, none, rfl, rfl, hb, rfl, rfl⟩, ?_⟩
  rintro m σ H' ⟨a', b', u, rfl, rfl, hb', hg, hm⟩
  refine ⟨_, rfl, _, _, rfl, rfl, _, rfl, ?_⟩
  refine ite2 (fun c => ?_) (fun c => ?_)
  · have c := of_decide_eq_true c
    refine ⟨_, fun _ _ n => n, ?_⟩
    refine ⟨_, rfl, _, rfl, _, rfl, _, _, rfl, rfl, ⟨by omega, by omega⟩, _, rfl, _, _, rfl, rfl, .inr ⟨by omega, by omega⟩, _, _, rfl, rfl, ?_⟩
    have er : (a' : Int) - (a' : Int) / (b' : Int) * (b' : Int) = ((a' % b' : Nat) : Int) := by
      have h1 := Int.emod_add_mul_ediv (a' : Int) (b' : Int)
      rw [Int.mul_comm] at h1
      rw [Int.natCast_emod]; omega
    refine ⟨_, rfl, _, rfl, ?_⟩
    refine ⟨a' % b', by rw [hm]; exact Nat.mod_lt _ (by omega), b', a' % b', some (.int ((a' % b' : Nat) : Int)), ?_, rfl, Nat.lt_trans (Nat.mod_lt _ (by omega)) hb', ?_, rfl⟩
    · rw [← er]; rfl
    · rw [← hg, Nat.gcd_comm b', ← Nat.gcd_rec, Nat.gcd_comm]
  · have c := of_decide_eq_false (Bool.eq_false_iff.mpr c)
    have e0 : b' = 0 := by omega
    subst e0
    rw [Nat.gcd_zero_right] at hg
    exact ⟨_, rfl, by rw [hg]; exact hQ⟩
theorem ok_law_fraction (B : Bi mg) (G : Gi K mg) (D : Dfn K mg "_law_fraction" s_law_fraction)  (c_law_gcd : C8.Cal P w K mg base 1 "_law_gcd" sp_law_gcd []) : C8.Cal P w K mg base 2 "_law_fraction" (sp_law_fraction K) [] := by
  refine D.cal sc_law_fraction (fun _ _ _ _ _ _ us hl => match us, hl with | [_, _], _ => rfl) (fun vs H Q E h => ?_) (fun f cdv A outer s H vs Q E hr h => ?_)
  · obtain ⟨n, d, rfl, _⟩ := h
    rfl
  obtain ⟨n, d, rfl, hd, hd2, hQ⟩ := h
  refine ⟨_, (pss_cons (ps_if (pt_cmpR op_eq (pv 0) pe_int (nomark _)) (pss_one (ps_ret (pe_tup (pa_cons pe_int (pa_cons pe_int pa_nil))))) pss_nil)
    (pss_cons (ps_set (i := 2) sc_law_fraction.nd rfl (Or.inl rfl) (C8.pe_c c_law_gcd hr (by omega) rfl (pa_cons (pe_callB call_abs (by rfl) B.abs (by decide +kernel) (pa_cons (pv 0) pa_nil)) (pa_cons (pv 1) pa_nil))))
    (pss_one (ps_ret (pe_tup (pa_cons (pe_op op_fdiv (pv 0) (pv 2)) (pa_cons (pe_op op_fdiv (pv 1) (pv 2)) pa_nil))))))), ?_⟩
  refine ⟨_, rfl, rfl, _, rfl, ?_⟩
  refine ite2 (fun c => ?_) (fun c => ?_)
  · have c := V.int.inj (of_decide_eq_true c)
    subst c
    refine ⟨(by show 2 ≤ sizeLine; decide), fun t ht => hQ t _ (Same.new ht) ?_⟩
    unfold FrAt
    rw [frac_num 0 hd, frac_den 0 hd]
    rw [show Nat.gcd (0 : Int).natAbs d = d by simp, Nat.div_self hd, Int.zero_ediv]
    exact .inl (.inl upd_same)
  · have g0 : 0 < Nat.gcd n.natAbs d := Nat.gcd_pos_of_pos_right _ hd
    have g1 : Nat.gcd n.natAbs d ≤ d := Nat.le_of_dvd hd (Nat.gcd_dvd_right _ _)
    have ea : (if n < 0 then -n else n) = ((n.natAbs : Nat) : Int) := by split <;> omega
    refine ⟨_, rfl, _, rfl, _, rfl, n.natAbs, d, ?_, hd2, ?_⟩
    · rw [ea]; rfl
    refine ⟨_, rfl, _, rfl, _, _, rfl, rfl, ⟨by omega, by omega⟩, _, rfl, _, rfl, _, _, rfl, rfl, ⟨by omega, by omega⟩, (by show 2 ≤ sizeLine; decide), fun t ht => hQ t _ (Same.new ht) ?_⟩
    unfold FrAt
    rw [frac_num n hd, frac_den n hd, Int.natCast_ediv]
    exact .inl (.inl upd_same)
theorem ok_law_not_above (B : Bi mg) (G : Gi K mg) (D : Dfn K mg "_law_not_above" s_law_not_above)  : C8.Cal P w K mg base 1 "_law_not_above" (sp_law_not_above K) [] := by
  refine D.cal sc_law_not_above (fun _ _ _ _ _ _ us hl => match us, hl with | [_, _], _ => rfl) (fun vs H Q E h => ?_) (fun f cdv A outer s H vs Q E hr h => ?_)
  · obtain ⟨a, b, x, y, rfl, _⟩ := h
    rfl
  obtain ⟨a, b, x, y, rfl, hx, hy, dx, dy, hQ⟩ := h
  refine ⟨_, (pss_one (ps_ret (pe_cmpR op_le (pe_op op_mul (pe_ix ix_tup (pv 0) pe_int (fun _ _ => rfl)) (pe_ix ix_tup (pv 1) pe_int (fun _ _ => rfl))) (pe_op op_mul (pe_ix ix_tup (pv 1) pe_int (fun _ _ => rfl)) (pe_ix ix_tup (pv 0) pe_int (fun _ _ => rfl))) (nomark _)))), ?_⟩
  refine ⟨_, rfl, _, _, _, _, rfl, rfl, hx, at0 _ _, _, rfl, _, _, _, _, rfl, rfl, hy, at1 _ _ _, _, _, rfl, rfl, .inr ⟨by omega, by omega⟩, _, rfl, _, _, _, _, rfl, rfl, hy, at0 _ _, _, rfl, _, _, _, _, rfl, rfl, hx, at1 _ _ _, _, _, rfl, rfl, .inr ⟨by omega, by omega⟩, _, _, rfl, rfl, ?_⟩
  refine hQ _ ?_
  rw [decide_eq_true_iff, Rat.le_iff]
theorem law_breaker_step (B : Bi mg) (G : Gi K mg) (D : Dfn K mg "_law_breaker" s_law_breaker) (c_law_take : C8.Cal P w K mg base 1 "_law_take" sp_law_take []) (c_law_parts : C8.Cal P w K mg base 2 "_law_parts" (sp_law_parts K) [])
    (d lv : Nat) (spb : Sp) (hsp : ∀ d', d = d' + 1 → spb = sp_law_breaker K d') (c_law_breaker : C8.Cal P w K mg base (lv + 2) "_law_breaker" spb []) : C8.Cal P w K mg base (lv + 3) "_law_breaker" (sp_law_breaker K d) [] := by
  refine D.cal sc_law_breaker (fun _ _ _ _ _ _ us hl => match us, hl with | [_, _, _, _, _], _ => rfl) (fun vs H Q E h => ?_) (fun f cdv A outer s H vs Q E hr h => ?_)
  · obtain ⟨h, dl, asks, len, said, rfl, _⟩ := h
    rfl
  obtain ⟨h, dl, asks, len, said, rfl, hA, hlen, hsaid, hQ⟩ := h
  refine ⟨_, (pss_cons (ps_set (i := 5) sc_law_breaker.nd rfl (Or.inl rfl) (C8.pe_c c_law_take hr (by omega) rfl (pa_cons (pv 0) (pa_cons pe_int pa_nil))))
    (pss_cons (ps_if (PW.pt (pw_or (pt_cmpR op_eq (pv 1) pe_int (nomark _)) (pw_or1 (pt_cmpR op_eq (pv 5) pe_int (nomark _))))) (pss_cons (ps_set (i := 6) sc_law_breaker.nd rfl (Or.inl rfl) (pv 4))
      (C8.pss_cut (ps_if (pt_cmpR op_eq (C8.pe_c c_law_take hr (by omega) rfl (pa_cons (pv 0) (pa_cons pe_int pa_nil))) pe_int (nomark _)) (pss_one (ps_set (i := 6) sc_law_breaker.nd rfl (Or.inl rfl) (C8.pe_c c_law_take hr (by omega) rfl (pa_cons (pv 0) (pa_cons pe_int pa_nil))))) pss_nil)
      (pss_one (ps_ret (pe_tup (pa_cons pe_str (pa_cons (C8.pe_c c_law_parts hr (by omega) rfl (pa_cons (pv 0) (pa_cons (pv 6) pa_nil))) pa_nil))))))) pss_nil)
    (pss_cons (ps_if (PW.pt (pw_or (pt_cmpR op_lt (pv 5) pe_int (nomark _)) (pw_or1 (PW.pt (pw_and (pt_cmpR op_eq (pv 5) pe_int (nomark _)) (pw_and1 (pt_cmpR op_eq (pv 2) pe_int (nomark _)))))))) (pss_cons (ps_set (i := 7) sc_law_breaker.nd rfl (Or.inl rfl) (C8.pe_c c_law_breaker hr (by omega) rfl (pa_cons (pv 0) (pa_cons (pe_op op_sub (pv 1) pe_int) (pa_cons (pv 2) (pa_cons (pv 3) (pa_cons (pv 4) pa_nil)))))))
      (pss_one (ps_ret (pe_tup (pa_cons pe_str (pa_cons (C8.pe_c c_law_take hr (by omega) rfl (pa_cons (pv 0) (pa_cons pe_int pa_nil))) (pa_cons (pv 7) (pa_cons (C8.pe_c c_law_breaker hr (by omega) rfl (pa_cons (pv 0) (pa_cons (pe_op op_sub (pv 1) pe_int) (pa_cons (pv 2) (pa_cons (pv 3) (pa_cons (pv 4) pa_nil)))))) pa_nil)))))))) pss_nil)
    (pss_cons (ps_if (pt_cmpR op_eq (pv 5) pe_int (nomark _)) (pss_cons (ps_set (i := 8) sc_law_breaker.nd rfl (Or.inl rfl) (pe_op op_add pe_int (C8.pe_c c_law_take hr (by omega) rfl (pa_cons (pv 0) (pa_cons pe_int pa_nil)))))
      (pss_one (ps_ret (pe_tup (pa_cons pe_str (pa_cons (pe_callTy (T := "tuple") call_tuple_of (by rfl) B.tuple (by decide +kernel) (pa_cons (pe_lc (own := [("_law_k", 9)]) (g := (gName 9)) (tt := tYes) rfl sc_law_breaker.nd (pi_range1 rfl B.range (pa_cons (pv 8) pa_nil)) (blkOk_by (own := [("_law_k", 9)]) (N := ["_law_hand", "_law_depth", "_law_asks", "_law_length", "_law_said", "_law_kind", "_law_size", "_law_first", "_law_many", "_law_k"]) (sc := defScope s_law_breaker) (by decide +kernel)) (fun _ _ _ _ _ => (pg_name (i := 9) sc_law_breaker.nd rfl (Or.inl rfl))) (fun _ _ _ _ _ => pts_nil) (fun _ _ _ _ _ => (C8.pe_c c_law_breaker hr (by omega) rfl (pa_cons (pv 0) (pa_cons (pe_op op_sub (pv 1) pe_int) (pa_cons (pv 2) (pa_cons (pv 3) (pa_cons (pv 4) pa_nil)))))))) pa_nil)) pa_nil)))))) pss_nil)
    (pss_cons (ps_if (pt_cmpR op_eq (pv 2) pe_int (nomark _)) (pss_one (ps_ret (pe_tup (pa_cons pe_str (pa_cons (C8.pe_c c_law_parts hr (by omega) rfl (pa_cons (pv 0) (pa_cons (pv 4) pa_nil))) pa_nil))))) pss_nil)
    (pss_cons (ps_set (i := 6) sc_law_breaker.nd rfl (Or.inl rfl) (pv 3))
    (C8.pss_cut (ps_if (pt_cmpR op_eq (C8.pe_c c_law_take hr (by omega) rfl (pa_cons (pv 0) (pa_cons pe_int pa_nil))) pe_int (nomark _)) (pss_one (ps_set (i := 6) sc_law_breaker.nd rfl (Or.inl rfl) (C8.pe_c c_law_take hr (by omega) rfl (pa_cons (pv 0) (pa_cons pe_int pa_nil))))) pss_nil)
    (pss_one (ps_ret (pe_tup (pa_cons pe_str (pa_cons (C8.pe_c c_law_parts hr (by omega) rfl (pa_cons (pv 0) (pa_cons (pv 6) pa_nil))) (pa_cons (C8.pe_c c_law_breaker hr (by omega) rfl (pa_cons (pv 0) (pa_cons (pe_op op_sub (pv 1) pe_int) (pa_cons (pe_op op_sub (pv 2) pe_int) (pa_cons (pv 3) (pa_cons (pv 4) pa_nil)))))) pa_nil))))))))))))), ?_⟩
  refine ⟨_, rfl, h, dl, 6, rfl, hA, by decide, fun kind H1 hkind hb1 hA1 => ?_⟩
  refine ⟨_, rfl, rfl, _, rfl, ?_⟩
  refine ite2 (fun c => ?_) (fun c => ?_)
  · refine ⟨_, rfl, ?_⟩
    refine ⟨fun σ' H'' => ∃ sz : Nat, σ' = [some (.ref h), some (.int (d : Nat)), some (.int (asks : Nat)), some (.int len), some (.int said), some (.int kind), some (.int sz), none, none, none] ∧ sz ≤ 9 ∧ But [h] H H'' ∧ HandAt H'' h dl, ?_, ?_⟩
    · refine ⟨_, rfl, h, dl, 9, rfl, hA1, by decide, fun v2 H2 hv2 hb2 hA2 => ⟨rfl, _, rfl, ?_⟩⟩
      refine ite2 (fun _ => ?_) (fun _ => ⟨said, rfl, by omega, hb1.trans hb2, hA2⟩)
      exact ⟨_, rfl, h, dl, 4, rfl, hA2, by decide, fun v3 H3 hv3 hb3 hA3 => ⟨v3, rfl, by omega, (hb1.trans hb2).trans hb3, hA3⟩⟩
    · rintro σ' H'' ⟨sz, rfl, hsz, hbz, hAz⟩
      refine ⟨_, rfl, _, rfl, h, dl, sz, rfl, hAz, by omega, fun p ps H2 hl hs hb2 hA2 hp => ⟨(by show 2 ≤ sizeLine; decide), fun t ht => ?_⟩⟩
      obtain ⟨o1, o2, o3⟩ := say_ok (by omega : ps.length ≤ 9) hs d asks
      have st := Same.new (o := .tup [.str "say", .ref p]) ht
      exact hQ (.ref t) (.say ps) _ o1 o2 o3 ((hbz.trans hb2).trans st.but) (hA2.same st) ⟨t, p, rfl, .inl (.inl upd_same), st.tm _ _ hp⟩
  have hd0 : d ≠ 0 := fun z => of_decide_eq_false (Bool.eq_false_iff.mpr c) (by rw [z]; rfl)
  clear c
  refine ⟨_, rfl, rfl, _, rfl, ?_⟩
  refine ite2 (fun c => ?_) (fun c => ?_)
  · refine ⟨_, rfl, ?_⟩
    refine ⟨fun σ' H'' => ∃ sz : Nat, σ' = [some (.ref h), some (.int (d : Nat)), some (.int (asks : Nat)), some (.int len), some (.int said), some (.int kind), some (.int sz), none, none, none] ∧ sz ≤ 9 ∧ But [h] H H'' ∧ HandAt H'' h dl, ?_, ?_⟩
    · refine ⟨_, rfl, h, dl, 9, rfl, hA1, by decide, fun v2 H2 hv2 hb2 hA2 => ⟨rfl, _, rfl, ?_⟩⟩
      refine ite2 (fun _ => ?_) (fun _ => ⟨said, rfl, by omega, hb1.trans hb2, hA2⟩)
      exact ⟨_, rfl, h, dl, 4, rfl, hA2, by decide, fun v3 H3 hv3 hb3 hA3 => ⟨v3, rfl, by omega, (hb1.trans hb2).trans hb3, hA3⟩⟩
    · rintro σ' H'' ⟨sz, rfl, hsz, hbz, hAz⟩
      refine ⟨_, rfl, _, rfl, h, dl, sz, rfl, hAz, by omega, fun p ps H2 hl hs hb2 hA2 hp => ⟨(by show 2 ≤ sizeLine; decide), fun t ht => ?_⟩⟩
      obtain ⟨o1, o2, o3⟩ := say_ok (by omega : ps.length ≤ 9) hs d asks
      have st := Same.new (o := .tup [.str "say", .ref p]) ht
      exact hQ (.ref t) (.say ps) _ o1 o2 o3 ((hbz.trans hb2).trans st.but) (hA2.same st) ⟨t, p, rfl, .inl (.inl upd_same), st.tm _ _ hp⟩
  clear c
  obtain ⟨d', rfl⟩ : ∃ d', d = d' + 1 := ⟨d - 1, by omega⟩
  have hspb := hsp d' rfl
  subst hspb
  have ed : ((d' + 1 : Nat) : Int) - 1 = (d' : Int) := by omega
  refine ⟨_, rfl, _, _, rfl, rfl, _, rfl, ?_⟩
  refine ite2 (fun c => ?_) (fun c => ?_)
  · refine ⟨_, rfl, _, rfl, _, _, rfl, rfl, _, rfl, _, rfl, _, rfl, h, dl, asks, len, said, congrArg (fun z => [V.ref h, V.int z, V.int asks, V.int len, V.int said]) ed, hA1, hlen, hsaid, fun v1 b1 H2 g1 d1 a1 hb2 hA2 hv1 => ?_⟩
    refine ⟨_, rfl, h, dl, 9, rfl, hA2, by decide, fun x H3 hx hb3 hA3 => ?_⟩
    refine ⟨_, rfl, _, rfl, _, rfl, _, _, rfl, rfl, _, rfl, _, rfl, _, rfl, h, dl, asks, len, said, congrArg (fun z => [V.ref h, V.int z, V.int asks, V.int len, V.int said]) ed, hA3, hlen, hsaid, fun v2 b2 H4 g2 d2 a2 hb4 hA4 hv2 => ⟨(by show 4 ≤ sizeLine; decide), fun t ht => ?_⟩⟩
    have st := Same.new (o := .tup [.str "look", .int x, v1, v2]) ht
    exact hQ (.ref t) (.look x b1 b2) _ (by rw [Brk.good]; exact ⟨by omega, g1, g2⟩) (by rw [Brk.depth]; omega) (by rw [Brk.asks]; omega) ((((hb1.trans hb2).trans hb3).trans hb4).trans st.but) (hA4.same st) ⟨t, v1, v2, rfl, .inl (.inl upd_same), ((hv1.tm (hA2.tm hb3)).tm (hA3.tm hb4)).tm st.tm, hv2.tm st.tm⟩
  clear c
  refine ⟨_, rfl, rfl, _, rfl, ?_⟩
  refine ite2 (fun c => ?_) (fun c => ?_)
  · clear c
    refine ⟨_, rfl, rfl, _, rfl, ?_⟩
    refine ite2 (fun c => ?_) (fun c => ?_)
    · refine ⟨_, rfl, _, rfl, _, _, rfl, rfl, _, rfl, _, rfl, _, rfl, h, dl, asks, len, said, congrArg (fun z => [V.ref h, V.int z, V.int asks, V.int len, V.int said]) ed, hA1, hlen, hsaid, fun v1 b1 H2 g1 d1 a1 hb2 hA2 hv1 => ?_⟩
      refine ⟨_, rfl, h, dl, 9, rfl, hA2, by decide, fun x H3 hx hb3 hA3 => ?_⟩
      refine ⟨_, rfl, _, rfl, _, rfl, _, _, rfl, rfl, _, rfl, _, rfl, _, rfl, h, dl, asks, len, said, congrArg (fun z => [V.ref h, V.int z, V.int asks, V.int len, V.int said]) ed, hA3, hlen, hsaid, fun v2 b2 H4 g2 d2 a2 hb4 hA4 hv2 => ⟨(by show 4 ≤ sizeLine; decide), fun t ht => ?_⟩⟩
      have st := Same.new (o := .tup [.str "look", .int x, v1, v2]) ht
      exact hQ (.ref t) (.look x b1 b2) _ (by rw [Brk.good]; exact ⟨by omega, g1, g2⟩) (by rw [Brk.depth]; omega) (by rw [Brk.asks]; omega) ((((hb1.trans hb2).trans hb3).trans hb4).trans st.but) (hA4.same st) ⟨t, v1, v2, rfl, .inl (.inl upd_same), ((hv1.tm (hA2.tm hb3)).tm (hA3.tm hb4)).tm st.tm, hv2.tm st.tm⟩
    · clear c
      refine ⟨_, rfl, rfl, _, rfl, ?_⟩
      refine ite2 (fun c => ?_) (fun c => ?_)
      · clear c
        refine ⟨_, rfl, h, dl, 3, rfl, hA1, by decide, fun v H2 hv hb2 hA2 => ⟨_, _, rfl, rfl, ?_⟩⟩
        refine ⟨_, rfl, 1 + (v : Int), rfl, by omega, by omega, fun D hD => ?_⟩
        rw [show (1 + (v : Int)).toNat = v + 1 by omega]
        have nD := hA2.off hD
        refine lcRg (n := v + 1) (by omega) (fun i ys H' => ∃ bs : List Brk, BrksAt K H' bs ys ∧ bs.length = i ∧ (∀ b ∈ bs, b.good 9 ∧ b.depth ≤ d' + 1 ∧ b.asks ≤ asks) ∧ But [h] H2 H' ∧ HandAt H' h dl ∧ H' D = some (.lst ys)) ⟨[], rfl, rfl, (fun x hx => by cases hx), (Same.new hD).but, hA2.upd nD, upd_same⟩ (fun i ys H' ⟨bs, h1, h2, _, _, _, hL⟩ => ⟨hL, by rw [← h1.get.1, h2]⟩) ?_ ?_
        · rintro i ys H' hi ⟨bs, hbs, hbl, hok, hbH, hAH, hL⟩ C N' hC
          refine ⟨rfl, ?_⟩
          unfold tYes
          dsimp only
          rw [if_pos rfl]
          refine ⟨_, rfl, _, rfl, _, _, rfl, rfl, _, rfl, _, rfl, _, rfl, h, dl, asks, len, said, congrArg (fun z => [V.ref h, V.int z, V.int asks, V.int len, V.int said]) ed, hAH, hlen, hsaid, fun v1 b1 H3 g1 d1 a1 hb3 hA3 hv1 => ?_⟩
          have hL3 := hb3.at hL nD.1
          have tm3 := (hAH.tm (K := K) hb3)
          have tmD := Tm.lst (K := K) (o := .lst (ys ++ [v1])) hL3
          refine hC v1 H3 hL3 ⟨bs ++ [b1], ((hbs.tm tm3).tm tmD).snoc (hv1.tm tmD), by simp [hbl], ?_, (hbH.trans hb3).add hD, hA3.upd nD, upd_same⟩
          intro x hx
          rcases List.mem_append.mp hx with q | q
          · exact hok x q
          · rw [List.mem_singleton.mp q]; exact ⟨g1, d1, a1⟩
        · rintro ys H' ⟨bs, hbs, hbl, hok, hbH, hAH, hL⟩
          refine ⟨D, _, rfl, .inl ⟨.inl (.inl hL), fun t ht => ⟨(by show 2 ≤ sizeLine; decide), fun u hu => ?_⟩⟩⟩
          have st := Same.new (o := .tup ys) ht
          have su := Same.new (o := .tup [.str "toss", .ref t]) hu
          refine hQ (.ref u) (.toss bs) _ ?_ ?_ ?_ ((hb1.trans hb2).trans (hbH.trans (st.trans su).but)) (hAH.same (st.trans su)) ⟨u, t, ys, rfl, .inl (.inl upd_same), su.tm _ _ (.inl (.inl upd_same)), hbs.tm (st.trans su).tm⟩
          · rw [Brk.good]
            refine ⟨fun z => by rw [z] at hbl; simp at hbl, by omega, (goodL_iff bs).mpr fun b hb => (hok b hb).1⟩
          · rw [Brk.depth]
            have := depthL_le (bs := bs) fun b hb => (hok b hb).2.1
            omega
          · rw [Brk.asks]
            exact asksL_le fun b hb => (hok b hb).2.2
      clear c
      refine ⟨_, rfl, rfl, _, rfl, ?_⟩
      refine ite2 (fun c => ?_) (fun c => ?_)
      · refine ⟨_, rfl, _, rfl, h, dl, said, rfl, hA1, by omega, fun p ps H2 hl hs hb2 hA2 hp => ⟨(by show 2 ≤ sizeLine; decide), fun t ht => ?_⟩⟩
        obtain ⟨o1, o2, o3⟩ := say_ok (by omega : ps.length ≤ 9) hs (d' + 1) asks
        have st := Same.new (o := .tup [.str "say", .ref p]) ht
        exact hQ (.ref t) (.say ps) _ o1 o2 o3 ((hb1.trans hb2).trans st.but) (hA2.same st) ⟨t, p, rfl, .inl (.inl upd_same), st.tm _ _ hp⟩
      have ha0 : asks ≠ 0 := fun z => of_decide_eq_false (Bool.eq_false_iff.mpr c) (by rw [z]; rfl)
      clear c
      obtain ⟨asks', rfl⟩ : ∃ asks', asks = asks' + 1 := ⟨asks - 1, by omega⟩
      have ea : ((asks' + 1 : Nat) : Int) - 1 = (asks' : Int) := by omega
      refine ⟨_, rfl, ?_⟩
      refine ⟨fun σ' H'' => ∃ sz : Nat, σ' = [some (.ref h), some (.int ((d' + 1 : Nat) : Int)), some (.int ((asks' + 1 : Nat) : Int)), some (.int len), some (.int said), some (.int kind), some (.int sz), none, none, none] ∧ sz ≤ 9 ∧ But [h] H H'' ∧ HandAt H'' h dl, ?_, ?_⟩
      · refine ⟨_, rfl, h, dl, 9, rfl, hA1, by decide, fun v2 H2 hv2 hb2 hA2 => ⟨rfl, _, rfl, ?_⟩⟩
        refine ite2 (fun _ => ?_) (fun _ => ⟨len, rfl, by omega, hb1.trans hb2, hA2⟩)
        exact ⟨_, rfl, h, dl, 4, rfl, hA2, by decide, fun v3 H3 hv3 hb3 hA3 => ⟨v3, rfl, by omega, (hb1.trans hb2).trans hb3, hA3⟩⟩
      · rintro σ' H'' ⟨sz, rfl, hsz, hbz, hAz⟩
        refine ⟨_, rfl, _, rfl, h, dl, sz, rfl, hAz, by omega, fun p ps H2 hl hs hb2 hA2 hp => ?_⟩
        refine ⟨_, rfl, _, rfl, _, _, rfl, rfl, _, rfl, _, _, rfl, rfl, _, rfl, _, rfl, h, dl, asks', len, said, ?_, hA2, hlen, hsaid, fun v b H3 gb db ab hb3 hA3 hv => ⟨(by show 3 ≤ sizeLine; decide), fun t ht => ?_⟩⟩
        · show [V.ref h, V.int (((d' + 1 : Nat) : Int) - 1), V.int (((asks' + 1 : Nat) : Int) - 1), V.int len, V.int said] = _
          rw [ed, ea]
        · have st := Same.new (o := .tup [.str "ask", .ref p, v]) ht
          exact hQ (.ref t) (.ask ps b) _ (by rw [Brk.good]; exact ⟨⟨by omega, hs⟩, gb⟩) (by rw [Brk.depth]; omega) (by rw [Brk.asks]; omega) (((hbz.trans hb2).trans hb3).trans st.but) (hA3.same st) ⟨t, p, v, rfl, .inl (.inl upd_same), st.tm _ _ ((hA2.tm hb3) _ _ hp), hv.tm st.tm⟩
  · clear c
    refine ⟨_, rfl, rfl, _, rfl, ?_⟩
    refine ite2 (fun c => ?_) (fun c => ?_)
    · clear c
      refine ⟨_, rfl, h, dl, 3, rfl, hA1, by decide, fun v H2 hv hb2 hA2 => ⟨_, _, rfl, rfl, ?_⟩⟩
      refine ⟨_, rfl, 1 + (v : Int), rfl, by omega, by omega, fun D hD => ?_⟩
      rw [show (1 + (v : Int)).toNat = v + 1 by omega]
      have nD := hA2.off hD
      refine lcRg (n := v + 1) (by omega) (fun i ys H' => ∃ bs : List Brk, BrksAt K H' bs ys ∧ bs.length = i ∧ (∀ b ∈ bs, b.good 9 ∧ b.depth ≤ d' + 1 ∧ b.asks ≤ asks) ∧ But [h] H2 H' ∧ HandAt H' h dl ∧ H' D = some (.lst ys)) ⟨[], rfl, rfl, (fun x hx => by cases hx), (Same.new hD).but, hA2.upd nD, upd_same⟩ (fun i ys H' ⟨bs, h1, h2, _, _, _, hL⟩ => ⟨hL, by rw [← h1.get.1, h2]⟩) ?_ ?_
      · rintro i ys H' hi ⟨bs, hbs, hbl, hok, hbH, hAH, hL⟩ C N' hC
        refine ⟨rfl, ?_⟩
        unfold tYes
        dsimp only
        rw [if_pos rfl]
        refine ⟨_, rfl, _, rfl, _, _, rfl, rfl, _, rfl, _, rfl, _, rfl, h, dl, asks, len, said, congrArg (fun z => [V.ref h, V.int z, V.int asks, V.int len, V.int said]) ed, hAH, hlen, hsaid, fun v1 b1 H3 g1 d1 a1 hb3 hA3 hv1 => ?_⟩
        have hL3 := hb3.at hL nD.1
        have tm3 := (hAH.tm (K := K) hb3)
        have tmD := Tm.lst (K := K) (o := .lst (ys ++ [v1])) hL3
        refine hC v1 H3 hL3 ⟨bs ++ [b1], ((hbs.tm tm3).tm tmD).snoc (hv1.tm tmD), by simp [hbl], ?_, (hbH.trans hb3).add hD, hA3.upd nD, upd_same⟩
        intro x hx
        rcases List.mem_append.mp hx with q | q
        · exact hok x q
        · rw [List.mem_singleton.mp q]; exact ⟨g1, d1, a1⟩
      · rintro ys H' ⟨bs, hbs, hbl, hok, hbH, hAH, hL⟩
        refine ⟨D, _, rfl, .inl ⟨.inl (.inl hL), fun t ht => ⟨(by show 2 ≤ sizeLine; decide), fun u hu => ?_⟩⟩⟩
        have st := Same.new (o := .tup ys) ht
        have su := Same.new (o := .tup [.str "toss", .ref t]) hu
        refine hQ (.ref u) (.toss bs) _ ?_ ?_ ?_ ((hb1.trans hb2).trans (hbH.trans (st.trans su).but)) (hAH.same (st.trans su)) ⟨u, t, ys, rfl, .inl (.inl upd_same), su.tm _ _ (.inl (.inl upd_same)), hbs.tm (st.trans su).tm⟩
        · rw [Brk.good]
          refine ⟨fun z => by rw [z] at hbl; simp at hbl, by omega, (goodL_iff bs).mpr fun b hb => (hok b hb).1⟩
        · rw [Brk.depth]
          have := depthL_le (bs := bs) fun b hb => (hok b hb).2.1
          omega
        · rw [Brk.asks]
          exact asksL_le fun b hb => (hok b hb).2.2
    clear c
    refine ⟨_, rfl, rfl, _, rfl, ?_⟩
    refine ite2 (fun c => ?_) (fun c => ?_)
    · refine ⟨_, rfl, _, rfl, h, dl, said, rfl, hA1, by omega, fun p ps H2 hl hs hb2 hA2 hp => ⟨(by show 2 ≤ sizeLine; decide), fun t ht => ?_⟩⟩
      obtain ⟨o1, o2, o3⟩ := say_ok (by omega : ps.length ≤ 9) hs (d' + 1) asks
      have st := Same.new (o := .tup [.str "say", .ref p]) ht
      exact hQ (.ref t) (.say ps) _ o1 o2 o3 ((hb1.trans hb2).trans st.but) (hA2.same st) ⟨t, p, rfl, .inl (.inl upd_same), st.tm _ _ hp⟩
    have ha0 : asks ≠ 0 := fun z => of_decide_eq_false (Bool.eq_false_iff.mpr c) (by rw [z]; rfl)
    clear c
    obtain ⟨asks', rfl⟩ : ∃ asks', asks = asks' + 1 := ⟨asks - 1, by omega⟩
    have ea : ((asks' + 1 : Nat) : Int) - 1 = (asks' : Int) := by omega
    refine ⟨_, rfl, ?_⟩
    refine ⟨fun σ' H'' => ∃ sz : Nat, σ' = [some (.ref h), some (.int ((d' + 1 : Nat) : Int)), some (.int ((asks' + 1 : Nat) : Int)), some (.int len), some (.int said), some (.int kind), some (.int sz), none, none, none] ∧ sz ≤ 9 ∧ But [h] H H'' ∧ HandAt H'' h dl, ?_, ?_⟩
    · refine ⟨_, rfl, h, dl, 9, rfl, hA1, by decide, fun v2 H2 hv2 hb2 hA2 => ⟨rfl, _, rfl, ?_⟩⟩
      refine ite2 (fun _ => ?_) (fun _ => ⟨len, rfl, by omega, hb1.trans hb2, hA2⟩)
      exact ⟨_, rfl, h, dl, 4, rfl, hA2, by decide, fun v3 H3 hv3 hb3 hA3 => ⟨v3, rfl, by omega, (hb1.trans hb2).trans hb3, hA3⟩⟩
    · rintro σ' H'' ⟨sz, rfl, hsz, hbz, hAz⟩
      refine ⟨_, rfl, _, rfl, h, dl, sz, rfl, hAz, by omega, fun p ps H2 hl hs hb2 hA2 hp => ?_⟩
      refine ⟨_, rfl, _, rfl, _, _, rfl, rfl, _, rfl, _, _, rfl, rfl, _, rfl, _, rfl, h, dl, asks', len, said, ?_, hA2, hlen, hsaid, fun v b H3 gb db ab hb3 hA3 hv => ⟨(by show 3 ≤ sizeLine; decide), fun t ht => ?_⟩⟩
      · show [V.ref h, V.int (((d' + 1 : Nat) : Int) - 1), V.int (((asks' + 1 : Nat) : Int) - 1), V.int len, V.int said] = _
        rw [ed, ea]
      · have st := Same.new (o := .tup [.str "ask", .ref p, v]) ht
        exact hQ (.ref t) (.ask ps b) _ (by rw [Brk.good]; exact ⟨⟨by omega, hs⟩, gb⟩) (by rw [Brk.depth]; omega) (by rw [Brk.asks]; omega) (((hbz.trans hb2).trans hb3).trans st.but) (hA3.same st) ⟨t, p, v, rfl, .inl (.inl upd_same), st.tm _ _ ((hA2.tm hb3) _ _ hp), hv.tm st.tm⟩
end
end BB
set_option maxHeartbeats 4000000
namespace BB
open PySem PySem.Spec PyProof.Rows L2
theorem told_nil {F : Nat → Bs → Bs} {l m : Nat} {keys : List Nat} : View F l m keys [] := ⟨fun _ _ p hp => (by cases hp), fun p hp => (by cases hp)⟩
structure BestOk (k : Bk) (asks : Nat) : Prop where
  S : BrS (k.best asks).2 k.mm
  few : (k.best asks).2.asks ≤ asks
  att : k.adv (k.best asks).2 = (k.best asks).1
  nn : 0 ≤ (k.best asks).1
  up : ∀ b, b.wf → b.asks ≤ asks → k.adv b ≤ (k.best asks).1
  mm : k.mm ≤ 2
theorem Bk.bestOk {K : PySem.W.Frag} {H : Hp} {a : Addr} {k : Bk} (h : k.At K H a) {asks : Nat} (ha : asks ≤ k.most) : BestOk k asks := by
  cases k with
  | gen n m rows =>
    obtain ⟨_, g, n1, n2, m1, m4⟩ := h
    obtain ⟨_, _, q3, _⟩ := gbest_ok (rows := rows) m4
    exact ⟨gbest_S m4 (Nat.le_refl 2), by show (gbest rows m).2.asks ≤ _; rw [q3]; exact Nat.zero_le _, gattain g.row, gbest_nonneg rows m, fun b hb _ => gAdv_le g.row b hb, Nat.le_refl 2⟩
  | fn n l m tb =>
    obtain ⟨_, g, n1, n2, l1, l2, m1, m2⟩ := h
    have ha2 : asks ≤ 2 := ha
    have hF : ∀ k s, s.length = l → (tabF tb m k s).length = m := fun k s _ => tabF_len g k s
    obtain ⟨_, _, q3, _⟩ := bf_ok (F := tabF tb m) (n := n) l2 m2 asks (List.range (2 ^ n)) [] (by simpa using ha2)
    exact ⟨bf_S l2 m2 ha2 _, q3, attain (n := n) hF asks (List.range (2 ^ n)) [] [] told_nil (by simp), bf_nonneg hF asks _ [], fun b hb hq => upper (n := n) hF b hb (List.range (2 ^ n)) [] [] asks hq told_nil, m2⟩
theorem BestOk.ent {K : PySem.W.Frag} {H : Hp} {a : Addr} {k : Bk} {asks : Nat} (o : BestOk k asks) (h : k.At K H a) : Ent 55296 (k.best asks).1 := by
  rw [← o.att, k.adv_p a]
  exact Ent.sub (p_ent (h.S o.S true).dv) (p_ent (h.S o.S false).dv)
theorem adv_ent {K : PySem.W.Frag} {H : Hp} {a : Addr} {k : Bk} (h : k.At K H a) {b : Brk} (s : BrS b k.mm) : Ent 55296 (k.adv b) := by
  rw [k.adv_p a]
  exact Ent.sub (p_ent (h.S s true).dv) (p_ent (h.S s false).dv)
def dFr (q : Rat) : PyData := .tuple [.int q.num, .int (q.den : Nat)]
theorem dFr_ok (q : Rat) : PyData.eqv (dFr q) (dFr q) = true ∧ SeqAt.shaped (dFr q) = true := by
  unfold dFr SeqAt.shaped
  simp [PyData.eqv, PyData.eqvAll, PyData.canLay0, PyData.canLayAll0, PyData.depth, PyData.depthAll]
theorem dp_fr {K : PySem.W.Frag} {H : Hp} {a : Addr} {q : Rat} (h : FrAt K H a q) : Dp K H (.ref a) (dFr q) := .tup h (.cons (.int _) (.cons (.int _) .nil))
theorem sc_law_is_best : FnScope ["_law_hand", "_law_block", "_law_asks", "_law_found", "_law_breaker_here", "_law_turn", "_law_other"] ["_law_hand", "_law_block", "_law_asks"] (defScope s_law_is_best) := ⟨rfl, rfl, rfl, by decide +kernel, rfl, by decide +kernel, by decide +kernel⟩
def sp_law_is_best (K : PySem.W.Frag) : Sp := fun vs H Q _ => ∃ (h dl blk : Addr) (k : Bk) (asks : Nat), vs = [.ref h, .ref blk, .int (asks : Nat)] ∧ HandAt H h dl ∧ k.At K H blk ∧ asks ≤ k.most ∧ ∀ p H', But [h] H H' → HandAt H' h dl → FrAt K H' p (k.best asks).1 → Q (.ref p) H'
theorem Bk.most2 (k : Bk) : k.most ≤ 2 := by cases k <;> simp [Bk.most]
section
variable {P : Program} {w : World} {K : PySem.W.Frag} {mg : Str → Option Value} {base : Heap}
theorem ok_law_is_best (B : Bi mg) (G : Gi K mg) (D : Dfn K mg "_law_is_best" s_law_is_best)  (c_best : C8.Cal P w K mg base 8 "best" (sp_best K) []) (c_check_breaker : C8.Cal P w K mg base 5 "check_breaker" (sp_check_breaker K) []) (c_is_plain : C8.Cal P w K mg base 6 "is_plain" (sp_is_plain K) []) (c_most_asks : C8.Cal P w K mg base 6 "most_asks" (sp_most_asks K) []) (c_advantage : C8.Cal P w K mg base 12 "advantage" (sp_advantage K) [.int 300000]) (c_law_breaker : C8.Cal P w K mg base 6 "_law_breaker" (sp_law_breaker K 3) []) (c_law_not_above : C8.Cal P w K mg base 1 "_law_not_above" (sp_law_not_above K) []) : C8.Cal P w K mg base 13 "_law_is_best" (sp_law_is_best K) [] := by
  refine D.cal sc_law_is_best (fun _ _ _ _ _ _ us hl => match us, hl with | [_, _, _], _ => rfl) (fun vs H Q E h => ?_) (fun f cdv A outer s H vs Q E hr h => ?_)
  · obtain ⟨h, dl, blk, k, asks, rfl, _⟩ := h
    rfl
  obtain ⟨h, dl, blk, k, asks, rfl, hA, hB, hask, hQ⟩ := h
  refine ⟨_, (pss_cons (ps_asg (C8.pe_c c_best hr (by omega) rfl (pa_cons (pv 1) (pa_cons (pv 2) pa_nil))) (pg_tup rfl (pgs_cons (pg_name (i := 3) sc_law_is_best.nd rfl (Or.inl rfl)) (pgs_cons (pg_name (i := 4) sc_law_is_best.nd rfl (Or.inl rfl)) pgs_nil))))
    (pss_cons (ps_if (PW.pt (pw_or (pt_cmpR op_notN (C8.pe_c c_check_breaker hr (by omega) rfl (pa_cons (pv 4) pa_nil)) pe_non (nomark _)) (pw_or (pt_cmpR op_notBl (C8.pe_c c_is_plain hr (by omega) rfl (pa_cons (pv 4) pa_nil)) pe_bl (nomark _)) (pw_or1 (pt_cmpR op_gt (C8.pe_c c_most_asks hr (by omega) rfl (pa_cons (pv 4) pa_nil)) (pv 2) (nomark _)))))) (pss_one (ps_ret pe_non)) pss_nil)
    (pss_cons (ps_if (PW.pt (pw_or (pt_cmpR (op_neD (hr.units)) (C8.pe_c c_advantage hr (by omega) rfl (pa_cons (pv 1) (pa_cons (pv 4) pa_nil))) (pv 3) (nomark _)) (pw_or1 (pt_cmpR op_lt (pe_ix ix_tup (pv 3) pe_int (fun _ _ => rfl)) pe_int (nomark _))))) (pss_one (ps_ret pe_non)) pss_nil)
    (pss_cons (ps_for PassesOwn.never rfl (pi_range1 rfl B.range (pa_cons pe_int pa_nil)) (pg_name (i := 5) sc_law_is_best.nd rfl (Or.inl rfl)) (pss_cons (ps_set (i := 6) sc_law_is_best.nd rfl (Or.inl rfl) (C8.pe_c c_law_breaker hr (by omega) rfl (pa_cons (pv 0) (pa_cons pe_int (pa_cons (pv 2) (pa_cons pe_int (pa_cons pe_int pa_nil)))))))
      (C8.pss_cut (ps_if (pt_cmpR op_eq (pe_ix ix_tup (pv 1) pe_int (fun _ _ => rfl)) pe_str (nomark _)) (pss_one (ps_set (i := 6) sc_law_is_best.nd rfl (Or.inl rfl) (C8.pe_c c_law_breaker hr (by omega) rfl (pa_cons (pv 0) (pa_cons pe_int (pa_cons (pv 2) (pa_cons (pe_ix ix_tup (pv 1) pe_int (fun _ _ => rfl)) (pa_cons pe_int pa_nil)))))))) pss_nil)
      (pss_one (ps_if (pt_not (pt_val (C8.pe_c c_law_not_above hr (by omega) rfl (pa_cons (C8.pe_c c_advantage hr (by omega) rfl (pa_cons (pv 1) (pa_cons (pv 6) pa_nil))) (pa_cons (pv 3) pa_nil))))) (pss_one (ps_ret pe_non)) pss_nil)))))
    (pss_one (ps_ret (pv 3))))))), ?_⟩
  have ok := Bk.bestOk hB hask
  have okE := ok.ent hB
  have hm2 := k.most2
  refine ⟨_, rfl, _, rfl, blk, k, asks, rfl, hB, hask, fun p H1 s1 hp => ?_⟩
  obtain ⟨fa, bv, hS, hf, hb⟩ := hp
  refine ⟨p, _, rfl, hS, rfl, _, _, rfl, _, _, rfl, rfl, ?_⟩
  refine ⟨_, rfl, _, bv, rfl, hb, ok.S.good, ok.S.depth, ok.S.nodes, fun H2 s2 => ⟨rfl, _, rfl, ?_⟩⟩
  rw [show (!decide (V.non = V.non)) = false by decide]
  refine iteF ?_
  have hb2 := hb.tm s2.tm
  refine ⟨_, rfl, _, bv, rfl, hb2, ok.S.good, ok.S.depth, ok.S.nodes, fun H3 s3 => ⟨_, _, rfl, rfl, _, rfl, ?_⟩⟩
  refine iteF ?_
  have hb3 := hb2.tm s3.tm
  refine ⟨_, rfl, _, bv, rfl, hb3, ok.S.good, ok.S.depth, ok.S.nodes, fun mm H4 hmm s4 => ⟨_, rfl, _, _, rfl, rfl, _, rfl, ?_⟩⟩
  have hfew := ok.few
  rw [decide_eq_false (by omega)]
  refine iteF ?_
  have s14 := s2.trans (s3.trans s4)
  have s04 := s1.trans s14
  refine ⟨_, rfl, _, rfl, blk, k, _, bv, rfl, hB.tm s04.tm, hb.tm s14.tm, ok.S, ok.S.depth, ok.S.nodes, fun a5 H5 s5 ha5 => ?_⟩
  rw [ok.att] at ha5
  have hf5 := hf.tm (s14.trans s5).tm
  refine ⟨_, rfl, dFr (k.best asks).1, dFr (k.best asks).1, dp_fr ha5, dp_fr hf5, (dFr_ok _).2, (dFr_ok _).2, _, rfl, ?_⟩
  rw [(dFr_ok _).1]
  refine iteF ?_
  refine ⟨_, rfl, _, _, _, _, rfl, rfl, hf5, at0 _ _, _, _, rfl, rfl, _, rfl, ?_⟩
  have hnn := Rat.num_nonneg.mpr ok.nn
  rw [decide_eq_false (by omega)]
  refine iteF ?_
  have s05 := s04.trans s5
  have hA5 := hA.same s05
  have hB5 := hB.tm s05.tm
  refine ⟨2, rfl, by decide, by decide, ?_⟩
  refine forW (H1 := fun _ => none) (wn_range (n := 2)) (fun i σ H' => ∃ (u5 u6 : Option V), σ = [some (.ref h), some (.ref blk), some (.int (asks : Nat)), some (.ref fa), some bv, u5, u6] ∧ But [h] H5 H' ∧ HandAt H' h dl) ⟨none, none, rfl, (Same.refl H5).but, hA5⟩ (fun i σ H' _ => fun b o e => by cases e) ?_ ?_
  · rintro i σ H6 hi ⟨u5, u6, rfl, hb6, hA6⟩
    have tm6 := hA5.tm (K := K) hb6
    refine ⟨_, rfl, _, rfl, h, dl, asks, 1, 1, rfl, hA6, by decide, by decide, fun v1 b1 H7 g1 d1 a1 hb7 hA7 hv1 => ?_⟩
    have tm7 := hA6.tm (K := K) hb7
    refine ⟨fun σ' H' => ∃ (v : V) (b : Brk), σ' = [some (.ref h), some (.ref blk), some (.int (asks : Nat)), some (.ref fa), some bv, some (.int (i : Nat)), some v] ∧ But [h] H5 H' ∧ HandAt H' h dl ∧ Drawn b asks ∧ BrkAt K H' b v, ?_, ?_⟩
    · obtain ⟨r1, hf1⟩ := (hB5.tm (tm6.trans tm7)).first
      refine ⟨_, rfl, _, _, _, _, rfl, rfl, hf1, at0 _ _, rfl, _, rfl, ?_⟩
      cases k with
      | gen n m rows =>
        rw [show decide (V.str (Bk.gen n m rows).kind = V.str "function") = false from k_fg.2.1]
        exact iteF ⟨v1, b1, rfl, hb6.trans hb7, hA7, ⟨g1, d1, a1⟩, hv1⟩
      | fn n l m tb =>
        rw [show decide (V.str (Bk.fn n l m tb).kind = V.str "function") = true from k_fg.1]
        refine iteT ?_
        obtain ⟨⟨q, qs, h1, _⟩, _, _, _, l1, l2, _⟩ := hB5.tm (tm6.trans tm7)
        refine ⟨_, rfl, _, rfl, _, rfl, _, _, _, _, rfl, rfl, h1, at2 _ _ _ _, h, dl, asks, l, 1, rfl, hA7, by omega, by decide, fun v2 b2 H8 g2 d2 a2 hb8 hA8 hv2 => ?_⟩
        exact ⟨v2, b2, rfl, (hb6.trans hb7).trans hb8, hA8, ⟨g2, d2, a2⟩, hv2⟩
    · rintro σ' H8 ⟨v, b, rfl, hb8, hA8, hd, hv⟩
      have tm8 := hA5.tm (K := K) hb8
      have hbS : BrS b k.mm := hd.S (by omega) ok.mm
      have hB8 := hB5.tm tm8
      refine ⟨_, rfl, _, rfl, blk, k, b, v, rfl, hB8, hv, hbS, hbS.depth, hbS.nodes, fun a9 H9 s9 ha9 => ?_⟩
      refine ⟨_, rfl, a9, fa, _, _, rfl, ha9, (hf5.tm tm8).tm s9.tm, (adv_ent hB8 hbS).small, okE.small, fun r hr => ⟨_, rfl, ?_⟩⟩
      have er : r = true := hr.mpr (ok.up b hbS.wf hd.asks)
      subst er
      refine iteF ?_
      exact ⟨_, _, rfl, hb8.trans s9.but, hA8.same s9⟩
  · rintro σ H6 ⟨u5, u6, rfl, hb6, hA6⟩
    exact ⟨_, rfl, hQ fa H6 (s05.but.trans hb6) hA6 (hf5.tm (hA5.tm (K := K) hb6))⟩
end
end BB
set_option maxHeartbeats 4000000
namespace BB
open PySem PySem.Spec PyProof.Rows L2
theorem treeTab_ok {rows : List Bs} {n : Nat} (g : GenOk rows n (2 * n)) : TabOk (treeTab rows n) n 1 n where
  len := by unfold treeTab; rw [List.length_map, allBs_length]
  row := fun r hr => by
    obtain ⟨x, hx, rfl⟩ := List.mem_map.mp hr
    refine ⟨by rw [List.length_map, allBs_length], fun y hy => ?_⟩
    obtain ⟨p, _, rfl⟩ := List.mem_map.mp hy
    exact half_len (g.at (mem_allBs.mp hx)) _
theorem treeTab_F {rows : List Bs} {n k : Nat} {s : Bs} (hk : k < 2 ^ n) (hs : s.length = 1) : tabF (treeTab rows n) n k s = treeF rows k s := by
  unfold tabF treeTab treeF
  rw [List.getD_eq_getElem?_getD (l := List.map _ (allBs n)), List.getElem?_map, allBs_get hk]
  show ((allBs 1).map fun p => halfOf (rowAt rows (bitsOf n k)) (p.headD false)).getD (numOf s) _ = _
  have h2 : numOf s < 2 ^ 1 := by rw [← hs]; exact numOf_lt s
  rw [List.getD_eq_getElem?_getD, List.getElem?_map, allBs_get h2]
  show halfOf (rowAt rows (bitsOf n k)) ((bitsOf 1 (numOf s)).headD false) = _
  have e : bitsOf 1 (numOf s) = s := by
    have := bitsOf_numOf s
    rw [hs] at this; exact this
  rw [e, rowAt, numOf_bitsOf _ _ hk]
theorem tree_le {rows : List Bs} {n : Nat} (g : GenOk rows n (2 * n)) {asks : Nat} (o : BestOk (.fn n 1 n (treeTab rows n)) asks) : ((Bk.fn n 1 n (treeTab rows n)).best asks).1 ≤ (gbest rows (2 * n)).1 := by
  rw [← o.att]
  exact tree_adv g (fun k s hk hs => treeTab_F hk hs) _ o.S.wf
theorem scale (k : Nat) (q : Rat) : (((k : Int) * q.num : Int) : Rat) / ((q.den : Nat) : Rat) = (k : Rat) * q := by
  have h1 := num_den q
  have n1 := den_ne q
  have e1 : (((k : Int) * q.num : Int) : Rat) = (k : Rat) * (q.num : Rat) := by push_cast; rfl
  rw [e1, h1]
  grind
theorem sc_law : FnScope ["_law_script", "_law_hand", "_law_kind", "_law_block", "_law_n", "_law_k", "_law_part", "_law_whole"] ["_law_script"] (defScope s_law) := ⟨rfl, rfl, rfl, by decide +kernel, rfl, by decide +kernel, by decide +kernel⟩
def sp_law (K : PySem.W.Frag) : Sp := fun vs H Q _ => ∃ (s : Addr) (ns : List Int), vs = [.ref s] ∧ SqL K H s (ns.map V.int) ∧ ns.length ≤ 1000 ∧ ∀ H', Q (.bl true) H'
theorem notnone (a : Addr) : (!decide (V.ref a = V.non)) = true := by simp
section
variable {P : Program} {w : World} {K : PySem.W.Frag} {mg : Str → Option Value} {base : Heap}
theorem ok_law (B : Bi mg) (G : Gi K mg) {f : Addr} {fd : FuncData} (F : FunD K "law" "law" (defArgs s_law) (defBody s_law) (defScope s_law) [] [] f fd) (c_law_draws : C8.Cal P w K mg base 1 "_law_draws" (sp_law_draws K) []) (c_law_take : C8.Cal P w K mg base 1 "_law_take" sp_law_take []) (c_law_table : C8.Cal P w K mg base 3 "_law_table" (sp_law_table K) []) (c_law_function : C8.Cal P w K mg base 3 "_law_function" (sp_law_function K) []) (c_law_is_best : C8.Cal P w K mg base 13 "_law_is_best" (sp_law_is_best K) []) (c_built : C8.Cal P w K mg base 7 "built" (sp_built K) []) (c_law_fraction : C8.Cal P w K mg base 2 "_law_fraction" (sp_law_fraction K) []) (c_law_not_above : C8.Cal P w K mg base 1 "_law_not_above" (sp_law_not_above K) []) : FnOk P w K mg base CX0 14 f fd ["_law_script"] (sp_law K) := by
  refine F.ok sc_law (fun vs H Q E h => ?_) fun cdv A outer s H vs Q E hr h => ?_
  · obtain ⟨s, ns, rfl, _⟩ := h
    rfl
  suffices hh : ∃ t, PSs (cxOf CX0 P w K mg base ["_law_script", "_law_hand", "_law_kind", "_law_block", "_law_n", "_law_k", "_law_part", "_law_whole"] "law" (defScope s_law) f cdv A outer s H E).nox (defBody s_law) t ∧ t { nx := fun _ H' => Q .non H', rt := Q } (start ["_law_script", "_law_hand", "_law_kind", "_law_block", "_law_n", "_law_k", "_law_part", "_law_whole"] vs) H by
    obtain ⟨t, h1, h2⟩ := hh
    exact ⟨t, h1.nox, h2⟩
  obtain ⟨s, ns, rfl, hS, hns, hQ⟩ := h
  refine ⟨_, (pss_cons (ps_set (i := 1) sc_law.nd rfl (Or.inl rfl) (pe_lst (pa_cons (C8.pe_c c_law_draws hr (by omega) rfl (pa_cons (pv 0) (pa_cons pe_int pa_nil))) (pa_cons pe_int pa_nil))))
    (pss_cons (ps_set (i := 2) sc_law.nd rfl (Or.inl rfl) (C8.pe_c c_law_take hr (by omega) rfl (pa_cons (pv 1) (pa_cons pe_int pa_nil))))
    (pss_cons (ps_if (pt_cmpR op_eq (pv 2) pe_int (nomark _)) (pss_cons (ps_set (i := 3) sc_law.nd rfl (Or.inl rfl) (C8.pe_c c_law_function hr (by omega) rfl (pa_cons (pv 1) (pa_cons (pe_op op_add pe_int (C8.pe_c c_law_take hr (by omega) rfl (pa_cons (pv 1) (pa_cons pe_int pa_nil)))) (pa_cons (pe_op op_add pe_int (C8.pe_c c_law_take hr (by omega) rfl (pa_cons (pv 1) (pa_cons pe_int pa_nil)))) (pa_cons (pe_op op_add pe_int (C8.pe_c c_law_take hr (by omega) rfl (pa_cons (pv 1) (pa_cons pe_int pa_nil)))) pa_nil))))))
      (pss_one (ps_ret (pe_cmpR op_notN (C8.pe_c c_law_is_best hr (by omega) rfl (pa_cons (pv 1) (pa_cons (pv 3) (pa_cons (C8.pe_c c_law_take hr (by omega) rfl (pa_cons (pv 1) (pa_cons pe_int pa_nil))) pa_nil)))) pe_non (nomark _))))) pss_nil)
    (pss_cons (ps_set (i := 4) sc_law.nd rfl (Or.inl rfl) (pe_op op_add pe_int (C8.pe_c c_law_take hr (by omega) rfl (pa_cons (pv 1) (pa_cons pe_int pa_nil)))))
    (pss_cons (ps_if (pt_cmpR op_eq (pv 2) pe_int (nomark _)) (pss_one (ps_ret (pe_cmpR op_notN (C8.pe_c c_law_is_best hr (by omega) rfl (pa_cons (pv 1) (pa_cons (C8.pe_c c_law_table hr (by omega) rfl (pa_cons (pv 1) (pa_cons (pv 4) (pa_cons (pe_op op_add pe_int (C8.pe_c c_law_take hr (by omega) rfl (pa_cons (pv 1) (pa_cons pe_int pa_nil)))) pa_nil)))) (pa_cons pe_int pa_nil)))) pe_non (nomark _)))) pss_nil)
    (pss_cons (ps_if (pt_cmpR op_eq (pv 2) pe_int (nomark _)) (pss_cons (ps_set (i := 3) sc_law.nd rfl (Or.inl rfl) (C8.pe_c c_law_table hr (by omega) rfl (pa_cons (pv 1) (pa_cons (pv 4) (pa_cons (pe_op op_add (pv 4) pe_int) pa_nil)))))
      (pss_cons (ps_set (i := 5) sc_law.nd rfl (Or.inl rfl) (pe_op op_add pe_int (C8.pe_c c_law_take hr (by omega) rfl (pa_cons (pv 1) (pa_cons pe_int pa_nil)))))
      (pss_cons (ps_set (i := 6) sc_law.nd rfl (Or.inl rfl) (C8.pe_c c_law_is_best hr (by omega) rfl (pa_cons (pv 1) (pa_cons (pv 3) (pa_cons pe_int pa_nil)))))
      (pss_cons (ps_set (i := 7) sc_law.nd rfl (Or.inl rfl) (C8.pe_c c_law_is_best hr (by omega) rfl (pa_cons (pv 1) (pa_cons (C8.pe_c c_built hr (by omega) rfl (pa_cons (pe_tup (pa_cons pe_str (pa_cons (pv 5) (pa_cons (pe_tup (pa_cons pe_str pa_nil)) pa_nil)))) (pa_cons (pv 3) pa_nil))) (pa_cons pe_int pa_nil)))))
      (pss_one (ps_ret (pe_and (pe_cmpR op_notN (pv 6) pe_non (nomark _)) (pe_and (pe_cmpR op_notN (pv 7) pe_non (nomark _)) (pe_one (C8.pe_c c_law_not_above hr (by omega) rfl (pa_cons (pv 7) (pa_cons (C8.pe_c c_law_fraction hr (by omega) rfl (pa_cons (pe_op op_mul (pv 5) (pe_ix ix_tup (pv 6) pe_int (fun _ _ => rfl))) (pa_cons (pe_ix ix_tup (pv 6) pe_int (fun _ _ => rfl)) pa_nil))) pa_nil)))))))))))) pss_nil)
    (pss_cons (ps_set (i := 3) sc_law.nd rfl (Or.inl rfl) (C8.pe_c c_law_table hr (by omega) rfl (pa_cons (pv 1) (pa_cons (pv 4) (pa_cons (pe_op op_mul pe_int (pv 4)) pa_nil)))))
    (pss_cons (ps_set (i := 6) sc_law.nd rfl (Or.inl rfl) (C8.pe_c c_law_is_best hr (by omega) rfl (pa_cons (pv 1) (pa_cons (pv 3) (pa_cons pe_int pa_nil)))))
    (pss_cons (ps_set (i := 7) sc_law.nd rfl (Or.inl rfl) (C8.pe_c c_law_is_best hr (by omega) rfl (pa_cons (pv 1) (pa_cons (C8.pe_c c_built hr (by omega) rfl (pa_cons (pe_tup (pa_cons pe_str (pa_cons pe_int (pa_cons (pe_tup (pa_cons pe_str pa_nil)) pa_nil)))) (pa_cons (pv 3) pa_nil))) (pa_cons (pe_op op_add pe_int (C8.pe_c c_law_take hr (by omega) rfl (pa_cons (pv 1) (pa_cons pe_int pa_nil)))) pa_nil)))))
    (pss_one (ps_ret (pe_and (pe_cmpR op_notN (pv 6) pe_non (nomark _)) (pe_and (pe_cmpR op_notN (pv 7) pe_non (nomark _)) (pe_one (C8.pe_c c_law_not_above hr (by omega) rfl (pa_cons (pv 7) (pa_cons (pv 6) pa_nil))))))))))))))))), ?_⟩
  refine ⟨_, rfl, s, 300, ns, rfl, hS, hns, by decide, fun d ds H1 s1 hd => ⟨(by show 2 ≤ sizeLine; decide), fun h hh => ?_⟩⟩
  have nhd : d ≠ h := ne_of_none hd hh
  have hA : HandAt (upd H1 h (.lst [.ref d, .int 0])) h d := ⟨ds, 0, upd_same, by rw [upd_ne nhd]; exact hd⟩
  generalize upd H1 h _ = H2 at hA ⊢
  clear hd hh s1 H1 hS
  refine ⟨_, rfl, h, d, 4, rfl, hA, by decide, fun kind H3 hkind hb3 hA3 => ?_⟩
  refine ⟨_, rfl, rfl, _, rfl, ?_⟩
  refine ite2 (fun c => ?_) (fun c => ?_)
  · refine ⟨_, rfl, _, rfl, h, d, 2, rfl, hA3, by decide, fun n H4 hn hb4 hA4 => ⟨_, _, rfl, rfl, ?_⟩⟩
    refine ⟨_, rfl, h, d, 2, rfl, hA4, by decide, fun l H5 hl hb5 hA5 => ⟨_, _, rfl, rfl, ?_⟩⟩
    refine ⟨_, rfl, h, d, 2, rfl, hA5, by decide, fun m H6 hm hb6 hA6 => ⟨_, _, rfl, rfl, ?_⟩⟩
    refine ⟨h, d, n + 1, l + 1, m + 1, ?_, hA6, by omega, by omega, by omega, fun p tb H7 g hb7 hA7 hF => ?_⟩
    · show [V.ref h, V.int (1 + (n : Int)), V.int (1 + (l : Int)), V.int (1 + (m : Int))] = _
      rw [show (1 : Int) + (n : Int) = ((n + 1 : Nat) : Int) by omega, show (1 : Int) + (l : Int) = ((l + 1 : Nat) : Int) by omega, show (1 : Int) + (m : Int) = ((m + 1 : Nat) : Int) by omega]
    refine ⟨_, rfl, _, rfl, _, rfl, h, d, 3, rfl, hA7, by decide, fun asks H8 ha hb8 hA8 => ?_⟩
    refine ⟨h, d, p, .fn (n + 1) (l + 1) (m + 1) tb, asks, rfl, hA8, ⟨hF.tm (hA7.tm hb8), g, by omega, by omega, by omega, by omega, by omega, by omega⟩, by show asks ≤ 2; omega, fun q H9 hb9 hA9 hq => ⟨rfl, ?_⟩⟩
    rw [notnone]
    exact hQ H9
  clear c
  refine ⟨_, rfl, h, d, 2, rfl, hA3, by decide, fun n0 H4 hn0 hb4 hA4 => ⟨_, _, rfl, rfl, ?_⟩⟩
  dsimp only
  obtain ⟨n, hn⟩ : ∃ n : Nat, n = n0 + 1 := ⟨_, rfl⟩
  rw [show (1 : Int) + (n0 : Int) = (n : Int) by omega]
  refine ⟨_, rfl, rfl, _, rfl, ?_⟩
  refine ite2 (fun c => ?_) (fun c => ?_)
  · refine ⟨_, rfl, _, rfl, _, rfl, _, rfl, h, d, 4, rfl, hA4, by decide, fun m0 H5 hm0 hb5 hA5 => ⟨_, _, rfl, rfl, ?_⟩⟩
    refine ⟨h, d, n, m0 + 1, ?_, hA5, by omega, by omega, fun p rows H6 g hb6 hA6 hG => ?_⟩
    · show [V.ref h, V.int n, V.int (1 + (m0 : Int))] = _
      rw [show (1 : Int) + (m0 : Int) = ((m0 + 1 : Nat) : Int) by omega]
    refine ⟨h, d, p, .gen n (m0 + 1) rows, 0, rfl, hA6, ⟨hG, g, by omega, by omega, by omega, by omega⟩, Nat.le_refl _, fun q H7 hb7 hA7 hq => ⟨rfl, ?_⟩⟩
    rw [notnone]
    exact hQ H7
  clear c
  refine ⟨_, rfl, rfl, _, rfl, ?_⟩
  refine ite2 (fun c => ?_) (fun c => ?_)
  · refine ⟨_, rfl, _, rfl, _, rfl, _, _, rfl, rfl, h, d, n, n + 1, rfl, hA4, by omega, by omega, fun p rows H5 g hb5 hA5 hG => ?_⟩
    refine ⟨_, rfl, h, d, 2, rfl, hA5, by decide, fun k0 H6 hk0 hb6 hA6 => ⟨_, _, rfl, rfl, ?_⟩⟩
    dsimp only
    obtain ⟨k, hk⟩ : ∃ k : Nat, k = k0 + 1 := ⟨_, rfl⟩
    rw [show (1 : Int) + (k0 : Int) = (k : Int) by omega]
    have hG6 := hG.tm (hA5.tm hb6)
    refine ⟨_, rfl, _, rfl, h, d, p, .gen n (n + 1) rows, 0, rfl, hA6, ⟨hG6, g, by omega, by omega, by omega, by omega⟩, Nat.le_refl _, fun a1 H7 hb7 hA7 ha1 => ?_⟩
    have hG7 := hG6.tm (hA6.tm hb7)
    refine ⟨_, rfl, _, rfl, (by show 1 ≤ sizeLine; decide), fun t ht => ⟨(by show 3 ≤ sizeLine; decide), fun u hu => ?_⟩⟩
    have st := Same.new (o := .tup [.str "block"]) ht
    have su := Same.new (o := .tup [.str "longer", .int k, .ref t]) hu
    refine ⟨_, rfl, .inl ⟨u, p, k, n, rows, rfl, ⟨t, .inl (.inl upd_same), su.tm _ _ (.inl (.inl upd_same))⟩, hG7.tm (st.trans su).tm, g, by omega, by omega, by omega, by omega, fun p2 H8 s8 hp2 => ?_⟩⟩
    have s78 := (st.trans su).trans s8
    have g2 := longRows_ok g k
    have hA8 := hA7.same s78
    have hB2 : (Bk.gen n (n + k) (longRows rows n k)).At K H8 p2 := ⟨hp2, g2, by omega, by omega, by omega, by omega⟩
    refine ⟨h, d, p2, .gen n (n + k) (longRows rows n k), 0, rfl, hA8, hB2, Nat.le_refl _, fun a2 H9 hb9 hA9 ha2 => ?_⟩
    have ha19 := (ha1.tm s78.tm).tm (hA8.tm hb9)
    have o1 := (Bk.bestOk (k := .gen n (n + 1) rows) (asks := 0) (show (Bk.gen n (n + 1) rows).At K H6 p from ⟨hG6, g, by omega, by omega, by omega, by omega⟩) (Nat.le_refl _)).ent (show (Bk.gen n (n + 1) rows).At K H6 p from ⟨hG6, g, by omega, by omega, by omega, by omega⟩)
    have o2 := (Bk.bestOk (asks := 0) hB2 (Nat.le_refl _)).ent hB2
    have hle : ((Bk.gen n (n + k) (longRows rows n k)).best 0).1 ≤ (k : Rat) * ((Bk.gen n (n + 1) rows).best 0).1 := longer_best g k
    generalize ((Bk.gen n (n + 1) rows).best 0).1 = q1 at ha19 o1 hle
    generalize ((Bk.gen n (n + k) (longRows rows n k)).best 0).1 = q2 at ha2 o2 hle
    have hd1 : q1.den ≤ 55296 := Nat.le_of_dvd (by decide) (o1.den (by decide))
    have hd1' := q1.den_pos
    refine ⟨_, rfl, rfl, _, rfl, ?_⟩
    rw [notnone]
    refine iteT ?_
    refine ⟨_, rfl, rfl, _, rfl, ?_⟩
    rw [notnone]
    refine iteT ?_
    refine ⟨_, rfl, _, rfl, _, rfl, _, _, _, _, rfl, rfl, ha19, at0 _ _, _, _, rfl, rfl, .inl ⟨by omega, by omega⟩, _, rfl, _, _, _, _, rfl, rfl, ha19, at1 _ _ _, (k : Int) * q1.num, q1.den, rfl, hd1', by omega, fun a3 H10 s10 ha3 => ?_⟩
    refine ⟨a2, a3, _, _, rfl, ha2.tm s10.tm, ha3, o2.small, Nat.lt_of_le_of_lt (frac_den_le _ hd1') (by omega), fun r hr => ?_⟩
    have er : r = true := hr.mpr (by rw [scale]; exact hle)
    subst er
    exact hQ H10
  clear c
  refine ⟨_, rfl, _, rfl, _, rfl, _, _, rfl, rfl, .inl ⟨by decide, by decide⟩, h, d, n, 2 * n, ?_, hA4, by omega, by omega, fun p rows H5 g hb5 hA5 hG => ?_⟩
  · show [V.ref h, V.int n, V.int (2 * (n : Int))] = _
    rw [show (2 : Int) * (n : Int) = ((2 * n : Nat) : Int) by omega]
  have hB1 : (Bk.gen n (2 * n) rows).At K H5 p := ⟨hG, g, by omega, by omega, by omega, by omega⟩
  refine ⟨_, rfl, _, rfl, h, d, p, .gen n (2 * n) rows, 0, rfl, hA5, hB1, Nat.le_refl _, fun a1 H7 hb7 hA7 ha1 => ?_⟩
  have hG7 := hG.tm (hA5.tm hb7)
  refine ⟨_, rfl, (by show 1 ≤ sizeLine; decide), fun t ht => ⟨(by show 3 ≤ sizeLine; decide), fun u hu => ?_⟩⟩
  have st := Same.new (o := .tup [.str "block"]) ht
  have su := Same.new (o := .tup [.str "tree", .int 1, .ref t]) hu
  refine ⟨_, rfl, .inr ⟨u, p, n, rows, rfl, ⟨t, .inl (.inl upd_same), su.tm _ _ (.inl (.inl upd_same))⟩, hG7.tm (st.trans su).tm, g, by omega, by omega, fun p2 H8 s8 hp2 => ?_⟩⟩
  have s78 := (st.trans su).trans s8
  have hA8 := hA7.same s78
  refine ⟨_, rfl, h, d, 2, rfl, hA8, by decide, fun x H9 hx hb9 hA9 => ⟨_, _, rfl, rfl, ?_⟩⟩
  have hB2 : (Bk.fn n 1 n (treeTab rows n)).At K H9 p2 := ⟨hp2.tm (hA8.tm hb9), treeTab_ok g, by omega, by omega, by omega, by omega, by omega, by omega⟩
  have hask : x + 1 ≤ (Bk.fn n 1 n (treeTab rows n)).most := by show x + 1 ≤ 2; omega
  refine ⟨h, d, p2, .fn n 1 n (treeTab rows n), x + 1, ?_, hA9, hB2, hask, fun a2 H10 hb10 hA10 ha2 => ?_⟩
  · show [V.ref h, V.ref p2, V.int (1 + (x : Int))] = _
    rw [show (1 : Int) + (x : Int) = ((x + 1 : Nat) : Int) by omega]
  have ok2 := Bk.bestOk hB2 hask
  have o1 := (Bk.bestOk hB1 (Nat.le_refl _)).ent hB1
  have o2 := ok2.ent hB2
  have hle : ((Bk.fn n 1 n (treeTab rows n)).best (x + 1)).1 ≤ ((Bk.gen n (2 * n) rows).best 0).1 := tree_le g ok2
  have ha19 := ((ha1.tm s78.tm).tm (hA8.tm hb9)).tm (hA9.tm hb10)
  refine ⟨_, rfl, rfl, _, rfl, ?_⟩
  rw [notnone]
  refine iteT ?_
  refine ⟨_, rfl, rfl, _, rfl, ?_⟩
  rw [notnone]
  refine iteT ?_
  refine ⟨_, rfl, _, rfl, a2, a1, _, _, rfl, ha2, ha19, o2.small, o1.small, fun r hr => ?_⟩
  have er : r = true := hr.mpr hle
  subst er
  exact hQ H10
end
end BB
set_option maxHeartbeats 0
namespace BB
open PySem PySem.Spec PyProof.Rows L2

section
variable {P : Program} {w : World} {K : PySem.W.Frag} {h : Heap} {mg : Str → Option Value}
theorem facts {f : Addr} (X : K.In h) (G0 : h.Ns mainGlobals mg) (hfa : mg ("law" : Str) = some (.ref f)) (c : SaysX w K) :
    ∃ fd : FuncData, (∀ (s : Shared) (v : Value), BindsTo s fd ⟨[v], []⟩ [("_law_script", v)]) ∧ ∀ base : Heap, K.In base → base.Ns mainGlobals mg → FnOk P w K mg base CX0 14 f fd ["_law_script"] (sp_law K) := by
  have ct := c.t
  have cd := ct.d
  have B : Bi mg := ⟨He.free_ok X G0 (cd.fact 68 (f := .free "range") rfl), He.free_ok X G0 (cd.fact 69 (f := .free "len") rfl), He.free_ok X G0 (cd.fact 70 (f := .free "isinstance") rfl), He.free_ok X G0 (cd.fact 71 (f := .free "int") rfl), He.free_ok X G0 (cd.fact 72 (f := .free "str") rfl), He.free_ok X G0 (cd.fact 73 (f := .free "tuple") rfl), He.free_ok X G0 (cd.fact 74 (f := .free "bool") rfl), He.free_ok X G0 (cd.fact 75 (f := .free "list") rfl), He.free_ok X G0 (cd.fact 76 (f := .free "all") rfl), He.free_ok X G0 (cd.fact 77 (f := .free "abs") rfl), He.free_ok X G0 (cd.fact 78 (f := .free "max") rfl), He.free_ok X G0 (cd.fact 79 (f := .free "reversed") rfl), He.free_ok X G0 (cd.fact 80 (f := .free "sorted") rfl)⟩
  have G : Gi K mg := {
    g_MOST_LENGTH := (let ⟨t, e⟩ := He.int_ok X G0 (cd.fact 81 (f := .int "MOST_LENGTH" 40) rfl); ⟨_, e, t, rfl⟩)
    g_MOST_BIT := (let ⟨t, e⟩ := He.int_ok X G0 (cd.fact 82 (f := .int "MOST_BIT" 9999) rfl); ⟨_, e, t, rfl⟩)
    g_MOST_TOSSED := (let ⟨t, e⟩ := He.int_ok X G0 (cd.fact 83 (f := .int "MOST_TOSSED" 64) rfl); ⟨_, e, t, rfl⟩)
    g_MOST_DEPTH := (let ⟨t, e⟩ := He.int_ok X G0 (cd.fact 84 (f := .int "MOST_DEPTH" 60) rfl); ⟨_, e, t, rfl⟩)
    g_MOST_WITHIN := (let ⟨t, e⟩ := He.int_ok X G0 (cd.fact 85 (f := .int "MOST_WITHIN" 2000) rfl); ⟨_, e, t, rfl⟩)
    g_MOST_DEEP := (let ⟨t, e⟩ := He.int_ok X G0 (cd.fact 86 (f := .int "MOST_DEEP" 8) rfl); ⟨_, e, t, rfl⟩)
    g_NOUGHT := ⟨_, (He.glo_ok X G0 (cd.fact 64 (f := .glo "NOUGHT") rfl)), rfl⟩
    g_PLAIN_WORDS := ⟨_, (He.glo_ok X G0 (cd.fact 65 (f := .glo "PLAIN_WORDS") rfl)), rfl⟩
    g_OnetimeWorld := ⟨_, (He.glo_ok X G0 (cd.fact 63 (f := .glo "OnetimeWorld") rfl)), rfl⟩
    g_RUNS := ⟨_, (He.glo_ok X G0 (cd.fact 66 (f := .glo "RUNS") rfl)), rfl⟩
    g_LAYERS := ⟨_, (He.glo_ok X G0 (cd.fact 67 (f := .glo "LAYERS") rfl)), rfl⟩
    t_NOUGHT := fun H => He.tupB_ok (c.ex 1) H
    t_PLAIN_WORDS := fun H => He.tupB_ok (c.ex 2) H
    g_gcd := PySem.W.mg_of X G0 (He.eqO_ok (c.ex 0)) }
  have z_tape : Kl K "Tape" ["choices", "draws"] := ⟨(He.cls_ok (cd.fact 87 (f := .cls "Tape") rfl)), fun f hf => by
    simp only [List.mem_cons, List.not_mem_nil, or_false] at hf
    rcases hf with rfl | rfl
    · exact He.noat_ok (cd.fact 96 (f := .noat "Tape" "choices") rfl)
    · exact He.noat_ok (cd.fact 97 (f := .noat "Tape" "draws") rfl)⟩
  have z_keyed : Kl K "KeyedWorld" ["block", "key"] := ⟨(He.cls_ok (cd.fact 89 (f := .cls "KeyedWorld") rfl)), fun f hf => by
    simp only [List.mem_cons, List.not_mem_nil, or_false] at hf
    rcases hf with rfl | rfl
    · exact He.noat_ok (cd.fact 98 (f := .noat "KeyedWorld" "block") rfl)
    · exact He.noat_ok (cd.fact 99 (f := .noat "KeyedWorld" "key") rfl)⟩
  have z_any : Kl K "AnyWorld" ["tape", "l", "m", "told"] := ⟨(He.cls_ok (cd.fact 90 (f := .cls "AnyWorld") rfl)), fun f hf => by
    simp only [List.mem_cons, List.not_mem_nil, or_false] at hf
    rcases hf with rfl | rfl | rfl | rfl
    · exact He.noat_ok (cd.fact 100 (f := .noat "AnyWorld" "tape") rfl)
    · exact He.noat_ok (cd.fact 101 (f := .noat "AnyWorld" "l") rfl)
    · exact He.noat_ok (cd.fact 102 (f := .noat "AnyWorld" "m") rfl)
    · exact He.noat_ok (cd.fact 103 (f := .noat "AnyWorld" "told") rfl)⟩
  have z_stopped : Kl K "Stopped" ["world"] := ⟨(He.cls_ok (cd.fact 88 (f := .cls "Stopped") rfl)), fun f hf => by
    simp only [List.mem_cons, List.not_mem_nil, or_false] at hf
    rcases hf with rfl
    · exact He.noat_ok (cd.fact 104 (f := .noat "Stopped" "world") rfl)⟩
  have z_notes : Kl K "Notes" ["world", "asked"] := ⟨(He.cls_ok (cd.fact 91 (f := .cls "Notes") rfl)), fun f hf => by
    simp only [List.mem_cons, List.not_mem_nil, or_false] at hf
    rcases hf with rfl | rfl
    · exact He.noat_ok (cd.fact 105 (f := .noat "Notes" "world") rfl)
    · exact He.noat_ok (cd.fact 106 (f := .noat "Notes" "asked") rfl)⟩
  have z_play : Kl K "Play" ["outcome", "said", "draws", "asked"] := ⟨(He.cls_ok (cd.fact 92 (f := .cls "Play") rfl)), fun f hf => by
    simp only [List.mem_cons, List.not_mem_nil, or_false] at hf
    rcases hf with rfl | rfl | rfl | rfl
    · exact He.noat_ok (cd.fact 107 (f := .noat "Play" "outcome") rfl)
    · exact He.noat_ok (cd.fact 108 (f := .noat "Play" "said") rfl)
    · exact He.noat_ok (cd.fact 109 (f := .noat "Play" "draws") rfl)
    · exact He.noat_ok (cd.fact 110 (f := .noat "Play" "asked") rfl)⟩
  have z_table : Kl K "Table" ["game", "tape", "kind", "challenge", "world", "secret"] := ⟨(He.cls_ok (cd.fact 93 (f := .cls "Table") rfl)), fun f hf => by
    simp only [List.mem_cons, List.not_mem_nil, or_false] at hf
    rcases hf with rfl | rfl | rfl | rfl | rfl | rfl
    · exact He.noat_ok (cd.fact 111 (f := .noat "Table" "game") rfl)
    · exact He.noat_ok (cd.fact 112 (f := .noat "Table" "tape") rfl)
    · exact He.noat_ok (cd.fact 113 (f := .noat "Table" "kind") rfl)
    · exact He.noat_ok (cd.fact 114 (f := .noat "Table" "challenge") rfl)
    · exact He.noat_ok (cd.fact 115 (f := .noat "Table" "world") rfl)
    · exact He.noat_ok (cd.fact 116 (f := .noat "Table" "secret") rfl)⟩
  have z_ways : Kl K "Ways" ["most", "many", "won"] := ⟨(He.cls_ok (cd.fact 94 (f := .cls "Ways") rfl)), fun f hf => by
    simp only [List.mem_cons, List.not_mem_nil, or_false] at hf
    rcases hf with rfl | rfl | rfl
    · exact He.noat_ok (cd.fact 117 (f := .noat "Ways" "most") rfl)
    · exact He.noat_ok (cd.fact 118 (f := .noat "Ways" "many") rfl)
    · exact He.noat_ok (cd.fact 119 (f := .noat "Ways" "won") rfl)⟩
  have Z : Zs K := ⟨z_tape, z_keyed, z_any, z_stopped, z_notes, z_play, z_table, z_ways⟩
  have d_bits : Dfn K mg "bits" sBits := let ⟨fd, F⟩ := cd.def_ 0 rfl; ⟨_, fd, F, (He.glo_ok X G0 (cd.fact 0 (f := .glo "bits") rfl))⟩
  have d_number_of : Dfn K mg "number_of" s_number_of := let ⟨fd, F⟩ := cd.def_ 1 rfl; ⟨_, fd, F, (He.glo_ok X G0 (cd.fact 1 (f := .glo "number_of") rfl))⟩
  have d_is_number : Dfn K mg "is_number" s_is_number := let ⟨fd, F⟩ := cd.def_ 2 rfl; ⟨_, fd, F, (He.glo_ok X G0 (cd.fact 2 (f := .glo "is_number") rfl))⟩
  have d_is_bits : Dfn K mg "is_bits" s_is_bits := let ⟨fd, F⟩ := cd.def_ 3 rfl; ⟨_, fd, F, (He.glo_ok X G0 (cd.fact 3 (f := .glo "is_bits") rfl))⟩
  have d_is_row : Dfn K mg "is_row" s_is_row := let ⟨fd, F⟩ := cd.def_ 4 rfl; ⟨_, fd, F, (He.glo_ok X G0 (cd.fact 4 (f := .glo "is_row") rfl))⟩
  have d_half : Dfn K mg "half" s_half := let ⟨fd, F⟩ := cd.def_ 5 rfl; ⟨_, fd, F, (He.glo_ok X G0 (cd.fact 5 (f := .glo "half") rfl))⟩
  have d_row_at : Dfn K mg "row_at" s_row_at := let ⟨fd, F⟩ := cd.def_ 6 rfl; ⟨_, fd, F, (He.glo_ok X G0 (cd.fact 6 (f := .glo "row_at") rfl))⟩
  have d_value_at : Dfn K mg "value_at" s_value_at := let ⟨fd, F⟩ := cd.def_ 7 rfl; ⟨_, fd, F, (He.glo_ok X G0 (cd.fact 7 (f := .glo "value_at") rfl))⟩
  have d_is_generator : Dfn K mg "is_generator" s_is_generator := let ⟨fd, F⟩ := cd.def_ 8 rfl; ⟨_, fd, F, (He.glo_ok X G0 (cd.fact 8 (f := .glo "is_generator") rfl))⟩
  have d_is_function : Dfn K mg "is_function" s_is_function := let ⟨fd, F⟩ := cd.def_ 9 rfl; ⟨_, fd, F, (He.glo_ok X G0 (cd.fact 9 (f := .glo "is_function") rfl))⟩
  have d_check_block : Dfn K mg "check_block" s_check_block := let ⟨fd, F⟩ := cd.def_ 10 rfl; ⟨_, fd, F, (He.glo_ok X G0 (cd.fact 10 (f := .glo "check_block") rfl))⟩
  have d_put_out : Dfn K mg "put_out" s_put_out := let ⟨fd, F⟩ := cd.def_ 11 rfl; ⟨_, fd, F, (He.glo_ok X G0 (cd.fact 11 (f := .glo "put_out") rfl))⟩
  have d_longer : Dfn K mg "longer" s_longer := let ⟨fd, F⟩ := cd.def_ 12 rfl; ⟨_, fd, F, (He.glo_ok X G0 (cd.fact 12 (f := .glo "longer") rfl))⟩
  have d_go_down : Dfn K mg "go_down" s_go_down := let ⟨fd, F⟩ := cd.def_ 13 rfl; ⟨_, fd, F, (He.glo_ok X G0 (cd.fact 13 (f := .glo "go_down") rfl))⟩
  have d_tree : Dfn K mg "tree" s_tree := let ⟨fd, F⟩ := cd.def_ 14 rfl; ⟨_, fd, F, (He.glo_ok X G0 (cd.fact 14 (f := .glo "tree") rfl))⟩
  have d_are_parts : Dfn K mg "are_parts" s_are_parts := let ⟨fd, F⟩ := cd.def_ 15 rfl; ⟨_, fd, F, (He.glo_ok X G0 (cd.fact 15 (f := .glo "are_parts") rfl))⟩
  have d_has_plain_word : Dfn K mg "has_plain_word" s_has_plain_word := let ⟨fd, F⟩ := cd.def_ 16 rfl; ⟨_, fd, F, (He.glo_ok X G0 (cd.fact 16 (f := .glo "has_plain_word") rfl))⟩
  have d_inner_plain : Dfn K mg "inner_plain" s_inner_plain := let ⟨fd, F⟩ := cd.def_ 17 rfl; ⟨_, fd, F, (He.glo_ok X G0 (cd.fact 17 (f := .glo "inner_plain") rfl))⟩
  have d_check_plain : Dfn K mg "check_plain" s_check_plain := let ⟨fd, F⟩ := cd.def_ 18 rfl; ⟨_, fd, F, (He.glo_ok X G0 (cd.fact 18 (f := .glo "check_plain") rfl))⟩
  have d_check_breaker : Dfn K mg "check_breaker" s_check_breaker := let ⟨fd, F⟩ := cd.def_ 19 rfl; ⟨_, fd, F, (He.glo_ok X G0 (cd.fact 19 (f := .glo "check_breaker") rfl))⟩
  have d_is_plain : Dfn K mg "is_plain" s_is_plain := let ⟨fd, F⟩ := cd.def_ 20 rfl; ⟨_, fd, F, (He.glo_ok X G0 (cd.fact 20 (f := .glo "is_plain") rfl))⟩
  have d_most_plain_asks : Dfn K mg "most_plain_asks" s_most_plain_asks := let ⟨fd, F⟩ := cd.def_ 21 rfl; ⟨_, fd, F, (He.glo_ok X G0 (cd.fact 21 (f := .glo "most_plain_asks") rfl))⟩
  have d_most_asks : Dfn K mg "most_asks" s_most_asks := let ⟨fd, F⟩ := cd.def_ 22 rfl; ⟨_, fd, F, (He.glo_ok X G0 (cd.fact 22 (f := .glo "most_asks") rfl))⟩
  have d_made_string : Dfn K mg "made_string" s_made_string := let ⟨fd, F⟩ := cd.def_ 23 rfl; ⟨_, fd, F, (He.glo_ok X G0 (cd.fact 23 (f := .glo "made_string") rfl))⟩
  have d_run_plain : Dfn K mg "run_plain" s_run_plain := let ⟨fd, F⟩ := cd.def_ 24 rfl; ⟨_, fd, F, (He.glo_ok X G0 (cd.fact 24 (f := .glo "run_plain") rfl))⟩
  have d_run_breaker : Dfn K mg "run_breaker" s_run_breaker := let ⟨fd, F⟩ := cd.def_ 25 rfl; ⟨_, fd, F, (He.glo_ok X G0 (cd.fact 25 (f := .glo "run_breaker") rfl))⟩
  have d_cover : Dfn K mg "cover" s_cover := let ⟨fd, F⟩ := cd.def_ 26 rfl; ⟨_, fd, F, (He.glo_ok X G0 (cd.fact 26 (f := .glo "cover") rfl))⟩
  have d_function_world : Dfn K mg "function_world" s_function_world := let ⟨fd, F⟩ := cd.def_ 27 rfl; ⟨_, fd, F, (He.glo_ok X G0 (cd.fact 27 (f := .glo "function_world") rfl))⟩
  have d_played : Dfn K mg "played" s_played := let ⟨fd, F⟩ := cd.def_ 28 rfl; ⟨_, fd, F, (He.glo_ok X G0 (cd.fact 28 (f := .glo "played") rfl))⟩
  have d_fraction : Dfn K mg "fraction" s_fraction := let ⟨fd, F⟩ := cd.def_ 29 rfl; ⟨_, fd, F, (He.glo_ok X G0 (cd.fact 29 (f := .glo "fraction") rfl))⟩
  have d_add : Dfn K mg "add" s_add := let ⟨fd, F⟩ := cd.def_ 30 rfl; ⟨_, fd, F, (He.glo_ok X G0 (cd.fact 30 (f := .glo "add") rfl))⟩
  have d_less : Dfn K mg "less" s_less := let ⟨fd, F⟩ := cd.def_ 31 rfl; ⟨_, fd, F, (He.glo_ok X G0 (cd.fact 31 (f := .glo "less") rfl))⟩
  have d_next_choices : Dfn K mg "next_choices" s_next_choices := let ⟨fd, F⟩ := cd.def_ 32 rfl; ⟨_, fd, F, (He.glo_ok X G0 (cd.fact 32 (f := .glo "next_choices") rfl))⟩
  have d_told_apart : Dfn K mg "told_apart" s_told_apart := let ⟨fd, F⟩ := cd.def_ 33 rfl; ⟨_, fd, F, (He.glo_ok X G0 (cd.fact 33 (f := .glo "told_apart") rfl))⟩
  have d_looking : Dfn K mg "looking" s_looking := let ⟨fd, F⟩ := cd.def_ 34 rfl; ⟨_, fd, F, (He.glo_ok X G0 (cd.fact 34 (f := .glo "looking") rfl))⟩
  have d_best_of_rows : Dfn K mg "best_of_rows" s_best_of_rows := let ⟨fd, F⟩ := cd.def_ 35 rfl; ⟨_, fd, F, (He.glo_ok X G0 (cd.fact 35 (f := .glo "best_of_rows") rfl))⟩
  have d_best_from : Dfn K mg "best_from" s_best_from := let ⟨fd, F⟩ := cd.def_ 36 rfl; ⟨_, fd, F, (He.glo_ok X G0 (cd.fact 36 (f := .glo "best_from") rfl))⟩
  have d_best : Dfn K mg "best" s_best := let ⟨fd, F⟩ := cd.def_ 37 rfl; ⟨_, fd, F, (He.glo_ok X G0 (cd.fact 37 (f := .glo "best") rfl))⟩
  have d_layers_of : Dfn K mg "layers_of" s_layers_of := let ⟨fd, F⟩ := cd.def_ 38 rfl; ⟨_, fd, F, (He.glo_ok X G0 (cd.fact 38 (f := .glo "layers_of") rfl))⟩
  have d_tables_of : Dfn K mg "tables_of" s_tables_of := let ⟨fd, F⟩ := cd.def_ 39 rfl; ⟨_, fd, F, (He.glo_ok X G0 (cd.fact 39 (f := .glo "tables_of") rfl))⟩
  have d_built : Dfn K mg "built" s_built := let ⟨fd, F⟩ := cd.def_ 40 rfl; ⟨_, fd, F, (He.glo_ok X G0 (cd.fact 40 (f := .glo "built") rfl))⟩
  have d_law_take : Dfn K mg "_law_take" s_law_take := let ⟨fd, F⟩ := cd.def_ 41 rfl; ⟨_, fd, F, (He.glo_ok X G0 (cd.fact 41 (f := .glo "_law_take") rfl))⟩
  have d_law_draws : Dfn K mg "_law_draws" s_law_draws := let ⟨fd, F⟩ := cd.def_ 42 rfl; ⟨_, fd, F, (He.glo_ok X G0 (cd.fact 42 (f := .glo "_law_draws") rfl))⟩
  have d_law_string : Dfn K mg "_law_string" s_law_string := let ⟨fd, F⟩ := cd.def_ 43 rfl; ⟨_, fd, F, (He.glo_ok X G0 (cd.fact 43 (f := .glo "_law_string") rfl))⟩
  have d_law_parts : Dfn K mg "_law_parts" s_law_parts := let ⟨fd, F⟩ := cd.def_ 44 rfl; ⟨_, fd, F, (He.glo_ok X G0 (cd.fact 44 (f := .glo "_law_parts") rfl))⟩
  have d_law_table : Dfn K mg "_law_table" s_law_table := let ⟨fd, F⟩ := cd.def_ 45 rfl; ⟨_, fd, F, (He.glo_ok X G0 (cd.fact 45 (f := .glo "_law_table") rfl))⟩
  have d_law_function : Dfn K mg "_law_function" s_law_function := let ⟨fd, F⟩ := cd.def_ 46 rfl; ⟨_, fd, F, (He.glo_ok X G0 (cd.fact 46 (f := .glo "_law_function") rfl))⟩
  have d_law_gcd : Dfn K mg "_law_gcd" s_law_gcd := let ⟨fd, F⟩ := cd.def_ 47 rfl; ⟨_, fd, F, (He.glo_ok X G0 (cd.fact 47 (f := .glo "_law_gcd") rfl))⟩
  have d_law_fraction : Dfn K mg "_law_fraction" s_law_fraction := let ⟨fd, F⟩ := cd.def_ 48 rfl; ⟨_, fd, F, (He.glo_ok X G0 (cd.fact 48 (f := .glo "_law_fraction") rfl))⟩
  have d_law_not_above : Dfn K mg "_law_not_above" s_law_not_above := let ⟨fd, F⟩ := cd.def_ 49 rfl; ⟨_, fd, F, (He.glo_ok X G0 (cd.fact 49 (f := .glo "_law_not_above") rfl))⟩
  have d_law_breaker : Dfn K mg "_law_breaker" s_law_breaker := let ⟨fd, F⟩ := cd.def_ 50 rfl; ⟨_, fd, F, (He.glo_ok X G0 (cd.fact 50 (f := .glo "_law_breaker") rfl))⟩
  have d_law_is_best : Dfn K mg "_law_is_best" s_law_is_best := let ⟨fd, F⟩ := cd.def_ 51 rfl; ⟨_, fd, F, (He.glo_ok X G0 (cd.fact 51 (f := .glo "_law_is_best") rfl))⟩
  have d_advantage : DfnK K mg "advantage" s_advantage [("most", .int 300000)] := let ⟨fd, F⟩ := cd.def_ 53 rfl; ⟨_, fd, F, (He.glo_ok X G0 (cd.fact 53 (f := .glo "advantage") rfl))⟩
  have d_Tape_draw : Mdf K (He.ga K "Tape") "draw" "Tape.draw" s_Tape_draw := ⟨let ⟨fd, F⟩ := cd.def_ 54 rfl; ⟨_, fd, F, He.meth_ok (cd.fact 120 (f := .meth "Tape" "draw") rfl)⟩, (He.cls_ok (cd.fact 87 (f := .cls "Tape") rfl))⟩
  have d_Tape_string : Mdf K (He.ga K "Tape") "string" "Tape.string" s_Tape_string := ⟨let ⟨fd, F⟩ := cd.def_ 55 rfl; ⟨_, fd, F, He.meth_ok (cd.fact 121 (f := .meth "Tape" "string") rfl)⟩, (He.cls_ok (cd.fact 87 (f := .cls "Tape") rfl))⟩
  have d_KeyedWorld_answer : Mdf K (He.ga K "KeyedWorld") "answer" "KeyedWorld.answer" s_KeyedWorld_answer := ⟨let ⟨fd, F⟩ := cd.def_ 56 rfl; ⟨_, fd, F, He.meth_ok (cd.fact 122 (f := .meth "KeyedWorld" "answer") rfl)⟩, (He.cls_ok (cd.fact 89 (f := .cls "KeyedWorld") rfl))⟩
  have d_Silent_answer : Mdf K (He.ga K "Silent") "answer" "Silent.answer" s_Silent_answer := ⟨let ⟨fd, F⟩ := cd.def_ 57 rfl; ⟨_, fd, F, He.meth_ok (cd.fact 123 (f := .meth "Silent" "answer") rfl)⟩, (He.cls_ok (cd.fact 95 (f := .cls "Silent") rfl))⟩
  have d_AnyWorld_answer : Mdf K (He.ga K "AnyWorld") "answer" "AnyWorld.answer" s_AnyWorld_answer := ⟨let ⟨fd, F⟩ := cd.def_ 58 rfl; ⟨_, fd, F, He.meth_ok (cd.fact 124 (f := .meth "AnyWorld" "answer") rfl)⟩, (He.cls_ok (cd.fact 90 (f := .cls "AnyWorld") rfl))⟩
  have d_Notes_answer : Mdf K (He.ga K "Notes") "answer" "Notes.answer" s_Notes_answer := ⟨let ⟨fd, F⟩ := cd.def_ 59 rfl; ⟨_, fd, F, He.meth_ok (cd.fact 125 (f := .meth "Notes" "answer") rfl)⟩, (He.cls_ok (cd.fact 91 (f := .cls "Notes") rfl))⟩
  have d_Stopped_now : Mdf K (He.ga K "Stopped") "now" "Stopped.now" s_Stopped_now := ⟨let ⟨fd, F⟩ := cd.def_ 60 rfl; ⟨_, fd, F, He.meth_ok (cd.fact 126 (f := .meth "Stopped" "now") rfl)⟩, (He.cls_ok (cd.fact 88 (f := .cls "Stopped") rfl))⟩
  have d_Table_has_won : Mdf K (He.ga K "Table") "has_won" "Table.has_won" s_Table_has_won := ⟨let ⟨fd, F⟩ := cd.def_ 61 rfl; ⟨_, fd, F, He.meth_ok (cd.fact 127 (f := .meth "Table" "has_won") rfl)⟩, (He.cls_ok (cd.fact 93 (f := .cls "Table") rfl))⟩
  have d_Table_begin_challenge : Mdf K (He.ga K "Table") "begin_challenge" "Table.begin_challenge" s_Table_begin_challenge := ⟨let ⟨fd, F⟩ := cd.def_ 62 rfl; ⟨_, fd, F, He.meth_ok (cd.fact 128 (f := .meth "Table" "begin_challenge") rfl)⟩, (He.cls_ok (cd.fact 93 (f := .cls "Table") rfl))⟩
  have d_Table_begin_asks : Mdf K (He.ga K "Table") "begin_asks" "Table.begin_asks" s_Table_begin_asks := ⟨let ⟨fd, F⟩ := cd.def_ 63 rfl; ⟨_, fd, F, He.meth_ok (cd.fact 129 (f := .meth "Table" "begin_asks") rfl)⟩, (He.cls_ok (cd.fact 93 (f := .cls "Table") rfl))⟩
  have d_Ways_count : Mdf K (He.ga K "Ways") "count" "Ways.count" s_Ways_count := ⟨let ⟨fd, F⟩ := cd.def_ 64 rfl; ⟨_, fd, F, He.meth_ok (cd.fact 130 (f := .meth "Ways" "count") rfl)⟩, (He.cls_ok (cd.fact 94 (f := .cls "Ways") rfl))⟩
  have d_Ways_chance : Mdf K (He.ga K "Ways") "chance" "Ways.chance" s_Ways_chance := ⟨let ⟨fd, F⟩ := cd.def_ 65 rfl; ⟨_, fd, F, He.meth_ok (cd.fact 131 (f := .meth "Ways" "chance") rfl)⟩, (He.cls_ok (cd.fact 94 (f := .cls "Ways") rfl))⟩
  have d_Tape_init : Cdf K mg "Tape" (He.ga K "Tape") "Tape.__init__" s_Tape_init := ⟨let ⟨fd, F⟩ := cd.def_ 66 rfl; ⟨_, fd, F, He.mkr_ok (cd.fact 132 (f := .mkr "Tape") rfl)⟩, (He.glo_ok X G0 (cd.fact 54 (f := .glo "Tape") rfl))⟩
  have d_Stopped_init : Cdf K mg "Stopped" (He.ga K "Stopped") "Stopped.__init__" s_Stopped_init := ⟨let ⟨fd, F⟩ := cd.def_ 67 rfl; ⟨_, fd, F, He.mkr_ok (cd.fact 133 (f := .mkr "Stopped") rfl)⟩, (He.glo_ok X G0 (cd.fact 55 (f := .glo "Stopped") rfl))⟩
  have d_KeyedWorld_init : Cdf K mg "KeyedWorld" (He.ga K "KeyedWorld") "KeyedWorld.__init__" s_KeyedWorld_init := ⟨let ⟨fd, F⟩ := cd.def_ 68 rfl; ⟨_, fd, F, He.mkr_ok (cd.fact 134 (f := .mkr "KeyedWorld") rfl)⟩, (He.glo_ok X G0 (cd.fact 56 (f := .glo "KeyedWorld") rfl))⟩
  have d_AnyWorld_init : Cdf K mg "AnyWorld" (He.ga K "AnyWorld") "AnyWorld.__init__" s_AnyWorld_init := ⟨let ⟨fd, F⟩ := cd.def_ 69 rfl; ⟨_, fd, F, He.mkr_ok (cd.fact 135 (f := .mkr "AnyWorld") rfl)⟩, (He.glo_ok X G0 (cd.fact 57 (f := .glo "AnyWorld") rfl))⟩
  have d_Notes_init : Cdf K mg "Notes" (He.ga K "Notes") "Notes.__init__" s_Notes_init := ⟨let ⟨fd, F⟩ := cd.def_ 70 rfl; ⟨_, fd, F, He.mkr_ok (cd.fact 136 (f := .mkr "Notes") rfl)⟩, (He.glo_ok X G0 (cd.fact 58 (f := .glo "Notes") rfl))⟩
  have d_Play_init : Cdf K mg "Play" (He.ga K "Play") "Play.__init__" s_Play_init := ⟨let ⟨fd, F⟩ := cd.def_ 71 rfl; ⟨_, fd, F, He.mkr_ok (cd.fact 137 (f := .mkr "Play") rfl)⟩, (He.glo_ok X G0 (cd.fact 59 (f := .glo "Play") rfl))⟩
  have d_Table_init : Cdf K mg "Table" (He.ga K "Table") "Table.__init__" s_Table_init := ⟨let ⟨fd, F⟩ := cd.def_ 72 rfl; ⟨_, fd, F, He.mkr_ok (cd.fact 138 (f := .mkr "Table") rfl)⟩, (He.glo_ok X G0 (cd.fact 60 (f := .glo "Table") rfl))⟩
  have d_Ways_init : Cdf K mg "Ways" (He.ga K "Ways") "Ways.__init__" s_Ways_init := ⟨let ⟨fd, F⟩ := cd.def_ 73 rfl; ⟨_, fd, F, He.mkr_ok (cd.fact 139 (f := .mkr "Ways") rfl)⟩, (He.glo_ok X G0 (cd.fact 61 (f := .glo "Ways") rfl))⟩
  have hN : IsN K := ⟨He.eqO_ok (c.ex 3), He.eqO_ok (c.ex 4), of_decide_eq_true (c.ex 5), of_decide_eq_true (c.ex 6), of_decide_eq_true (c.ex 7)⟩
  have k_Silent : Mak0 K mg "Silent" (He.ga K "Silent") := ⟨⟨c.ex 8, He.eqO_ok (c.ex 9), of_decide_eq_true (c.ex 10), c.ex 11⟩, (He.glo_ok X G0 (cd.fact 62 (f := .glo "Silent") rfl))⟩
  have nR : ∀ b : Brk, PySem.W.nsIn K (He.ga K "RUNS") (word b) = some none := fun b => by
    cases b with
    | say ps => exact He.eqO_ok (c.ex 12)
    | toss bs => exact He.eqO_ok (c.ex 13)
    | look i f s => exact He.eqO_ok (c.ex 14)
    | ask ps n => exact He.eqO_ok (c.ex 15)
  have kR : ∃ es n, KDict K w (He.ga K "RUNS") es n := ct.tab 0
  have La : LaK K w mg := ⟨ct.tab 1, fun l => by
    cases l with
    | longer => exact ⟨_, (He.glo_ok X G0 (cd.fact 12 (f := .glo "longer") rfl)), He.eqO_ok (c.ex 16)⟩
    | tree => exact ⟨_, (He.glo_ok X G0 (cd.fact 14 (f := .glo "tree") rfl)), He.eqO_ok (c.ex 17)⟩⟩
  obtain ⟨fd, F⟩ := cd.def_ 52 rfl
  have e := hfa.symm.trans (He.glo_ok X G0 (cd.fact 52 (f := .glo "law") rfl))
  cases e
  have b := FunD.bindsA (ps := ["_law_script"]) F fun _ _ _ _ _ _ us hl => match us, hl with | [_], _ => rfl
  refine ⟨fd, fun s v => b s [v] rfl, fun base _ _ => ?_⟩
  have r_bits := ok_bits (P := P) (w := w) (base := base) B d_bits
  have r_number_of := ok_number_of (P := P) (w := w) (base := base) B G d_number_of 
  have r_is_number := ok_is_number (P := P) (w := w) (base := base) B G d_is_number 
  have r_is_bits := ok_is_bits (P := P) (w := w) (base := base) B G d_is_bits 
  have r_is_row := ok_is_row (P := P) (w := w) (base := base) B G d_is_row r_is_bits
  have r_half := ok_half (P := P) (w := w) (base := base) B G d_half 
  have r_row_at := ok_row_at (P := P) (w := w) (base := base) B G d_row_at r_number_of
  have r_value_at := ok_value_at (P := P) (w := w) (base := base) B G d_value_at r_number_of
  have r_is_generator := ok_is_generator (P := P) (w := w) (base := base) B G d_is_generator r_is_number r_is_row
  have r_is_function := ok_is_function (P := P) (w := w) (base := base) B G d_is_function r_is_number r_is_row
  have r_check_block := ok_check_block (P := P) (w := w) (base := base) B G d_check_block r_is_generator r_is_function
  have r_put_out := ok_put_out (P := P) (w := w) (base := base) B G d_put_out r_row_at
  have r_longer := ok_longer (P := P) (w := w) (base := base) B G d_longer r_bits r_check_block r_is_number r_put_out
  have r_go_down := ok_go_down (P := P) (w := w) (base := base) B G d_go_down r_row_at r_half
  have r_tree := ok_tree (P := P) (w := w) (base := base) B G d_tree r_bits r_check_block r_is_number r_go_down
  have r_are_parts := ok_are_parts (P := P) (w := w) (base := base) B G d_are_parts r_is_bits r_is_number
  have r_has_plain_word := ok_has_plain_word (P := P) (w := w) (base := base) B G d_has_plain_word 
  have r_inner_plain := ok_inner_plain (P := P) (w := w) (base := base) B G d_inner_plain r_are_parts r_is_number
  have r_check_plain := ok_check_plain (P := P) (w := w) (base := base) B G d_check_plain r_inner_plain
  have r_check_breaker := ok_check_breaker (P := P) (w := w) (base := base) B G d_check_breaker r_has_plain_word r_check_plain
  have r_is_plain := ok_is_plain (P := P) (w := w) (base := base) B G d_is_plain r_has_plain_word r_check_breaker
  have r_most_plain_asks := ok_most_plain_asks (P := P) (w := w) (base := base) B G d_most_plain_asks r_inner_plain
  have r_most_asks := ok_most_asks (P := P) (w := w) (base := base) B G d_most_asks r_has_plain_word r_check_breaker r_most_plain_asks
  have r_Tape_init := ok_Tape_init (P := P) (w := w) (base := base) B G Z d_Tape_init 
  have r_Tape_draw := ok_Tape_draw (P := P) (w := w) (base := base) B G Z d_Tape_draw 
  have r_Tape_string := ok_Tape_string (P := P) (w := w) (base := base) B G Z d_Tape_string r_bits r_Tape_draw
  have r_KeyedWorld_answer := ok_KeyedWorld_answer (P := P) (w := w) (base := base) B G Z d_KeyedWorld_answer r_value_at
  have r_Silent_answer := ok_Silent_answer (P := P) (w := w) (base := base) B G Z d_Silent_answer 
  have r_AnyWorld_answer := ok_AnyWorld_answer (P := P) (w := w) (base := base) B G Z d_AnyWorld_answer r_Tape_string
  have m_ans : ∀ wk : WK, C8.Met P w K mg base 3 (He.ga K (clsOf wk)) "answer" (sp_ans K (clsOf wk)) [] := fun wk => by
    cases wk with
    | keyed blk n l m tb kb => exact r_KeyedWorld_answer
    | any l m told => exact r_AnyWorld_answer
    | silent => exact r_Silent_answer
  have r_Notes_answer := ok_Notes_answer (P := P) (w := w) (base := base) B G Z d_Notes_answer m_ans
  have r_Stopped_init := ok_Stopped_init (P := P) (w := w) (base := base) B G Z d_Stopped_init 
  have r_Stopped_now := ok_Stopped_now (P := P) (w := w) (base := base) B G Z d_Stopped_now hN
  have r_made_string := ok_made_string (P := P) (w := w) (base := base) B G d_made_string 
  have r_run_plain := ok_run_plain (P := P) (w := w) (base := base) B G d_run_plain Z r_made_string r_Stopped_init r_Tape_draw r_Notes_answer r_Stopped_now
  have r_run_breaker := ok_run_breaker (P := P) (w := w) (base := base) B G d_run_breaker kR nR r_run_plain
  have r_KeyedWorld_init := ok_KeyedWorld_init (P := P) (w := w) (base := base) B G Z d_KeyedWorld_init r_Tape_string
  have r_AnyWorld_init := ok_AnyWorld_init (P := P) (w := w) (base := base) B G Z d_AnyWorld_init 
  have r_Notes_init := ok_Notes_init (P := P) (w := w) (base := base) B G Z d_Notes_init 
  have r_Play_init := ok_Play_init (P := P) (w := w) (base := base) B G Z d_Play_init 
  have r_cover := ok_cover (P := P) (w := w) (base := base) B G d_cover r_row_at r_Tape_string
  have r_function_world := ok_function_world (P := P) (w := w) (base := base) B G d_function_world Z r_KeyedWorld_init r_AnyWorld_init
  have r_Table_has_won := ok_Table_has_won (P := P) (w := w) (base := base) B G Z d_Table_has_won 
  have r_Table_begin_challenge := ok_Table_begin_challenge (P := P) (w := w) (base := base) B G Z d_Table_begin_challenge r_cover
  have r_Table_begin_asks := ok_Table_begin_asks (P := P) (w := w) (base := base) B G Z d_Table_begin_asks r_function_world
  have r_Table_init := ok_Table_init (P := P) (w := w) (base := base) B G Z d_Table_init k_Silent r_Table_begin_asks r_Table_begin_challenge
  have r_played := ok_played (P := P) (w := w) (base := base) B G d_played Z r_Tape_init r_Table_init r_Notes_init r_run_breaker r_Table_has_won r_Play_init
  have r_fraction := ok_fraction (P := P) (w := w) (base := base) B G d_fraction 
  have r_add := ok_add (P := P) (w := w) (base := base) B G d_add r_fraction
  have r_less := ok_less (P := P) (w := w) (base := base) B G d_less r_fraction
  have r_next_choices := ok_next_choices (P := P) (w := w) (base := base) B G d_next_choices 
  have r_Ways_count := ok_Ways_count (P := P) (w := w) (base := base) B G Z d_Ways_count 
  have r_Ways_init := ok_Ways_init (P := P) (w := w) (base := base) B G Z d_Ways_init r_played r_Ways_count r_next_choices
  have r_Ways_chance := ok_Ways_chance (P := P) (w := w) (base := base) B G Z d_Ways_chance r_fraction r_add
  have r_advantage := ok_advantage (P := P) (w := w) (base := base) B G d_advantage r_check_block r_check_breaker r_Ways_init r_Ways_chance r_less
  have r_told_apart := ok_told_apart (P := P) (w := w) (base := base) B G d_told_apart r_less
  have r_looking := ok_looking (P := P) (w := w) (base := base) B G d_looking 
  have r_best_of_rows := ok_best_of_rows (P := P) (w := w) (base := base) B G d_best_of_rows r_number_of r_fraction r_add r_told_apart r_looking
  have r_best_from := ok_best_from (P := P) (w := w) (base := base) B G d_best_from r_bits r_number_of r_fraction r_add r_less r_told_apart r_looking
  have r_best := ok_best (P := P) (w := w) (base := base) B G d_best r_check_block r_is_number r_best_of_rows r_best_from
  have r_layers_of := ok_layers_of (P := P) (w := w) (base := base) B G d_layers_of La
  have r_tables_of := ok_tables_of (P := P) (w := w) (base := base) B G d_tables_of La r_layers_of r_longer r_tree
  have r_built := ok_built (P := P) (w := w) (base := base) B G d_built r_check_block r_tables_of
  have r_law_take := ok_law_take (P := P) (w := w) (base := base) B G d_law_take 
  have r_law_draws := ok_law_draws (P := P) (w := w) (base := base) B G d_law_draws 
  have r_law_string := ok_law_string (P := P) (w := w) (base := base) B G d_law_string r_law_take
  have r_law_parts := ok_law_parts (P := P) (w := w) (base := base) B G d_law_parts r_law_take
  have r_law_table := ok_law_table (P := P) (w := w) (base := base) B G d_law_table r_law_string
  have r_law_function := ok_law_function (P := P) (w := w) (base := base) B G d_law_function r_law_string
  have r_law_gcd := ok_law_gcd (P := P) (w := w) (base := base) B G d_law_gcd 
  have r_law_fraction := ok_law_fraction (P := P) (w := w) (base := base) B G d_law_fraction r_law_gcd
  have r_law_not_above := ok_law_not_above (P := P) (w := w) (base := base) B G d_law_not_above 
  have br0 := law_breaker_step (P := P) (w := w) (base := base) B G d_law_breaker r_law_take r_law_parts 0 0 (fun _ _ _ _ => False) (fun _ e => by omega) (d_law_breaker.cal (k := 1) sc_law_breaker (fun _ _ _ _ _ _ us hl => match us, hl with | [_, _, _, _, _], _ => rfl) (fun vs H Q E h => h.elim) (fun f cdv A outer s H vs Q E hr h => h.elim))
  have br1 := law_breaker_step (P := P) (w := w) (base := base) B G d_law_breaker r_law_take r_law_parts 1 1 (sp_law_breaker K 0) (fun d e => by rw [show d = 0 by omega]) br0
  have br2 := law_breaker_step (P := P) (w := w) (base := base) B G d_law_breaker r_law_take r_law_parts 2 2 (sp_law_breaker K 1) (fun d e => by rw [show d = 1 by omega]) br1
  have r_law_breaker := law_breaker_step (P := P) (w := w) (base := base) B G d_law_breaker r_law_take r_law_parts 3 3 (sp_law_breaker K 2) (fun d e => by rw [show d = 2 by omega]) br2
  have r_law_is_best := ok_law_is_best (P := P) (w := w) (base := base) B G d_law_is_best r_best r_check_breaker r_is_plain r_most_asks r_advantage r_law_breaker r_law_not_above
  exact ok_law B G F r_law_draws r_law_take r_law_table r_law_function r_law_is_best r_built r_law_fraction r_law_not_above
end
end BB
set_option maxHeartbeats 0
open PySem PySem.W PySem.Calls PyProof.Rows
theorem PySem.Challenge.cw_breakback_k46_whole_best_breakers_holds : PySem.Challenge.rw_breakback_k46_whole_best_breakers.Holds := by
  w_on; o_law
  refine HandSHeadRun.head_imp (r := OpenLaw.row PySem.Challenge.rw_breakback_k46_whole_best_breakers) (q := view (OpenLaw.row PySem.Challenge.rw_breakback_k46_whole_best_breakers).prog [0, 126]) (H := BB.hk) (ob := BB.ob) (M := 20000) (loose := BB.names) (d := HandSHeadRun.topDef (OpenLaw.row PySem.Challenge.rw_breakback_k46_whole_best_breakers).prog 126) (kwd := []) BB.ob_eq
    BB.run (by kernel_rfl) (by kernel_rfl) (by kernel_rfl) (by rfl) (by first | assumption | decide +kernel) (by decide +kernel) ⟨rfl, rfl, rfl, rfl, rfl, by decide +kernel⟩ ?hw ?hc
  case hw => w_witness2
  case hc =>
    refine L2.walk_ofE (l := PySem.Challenge.rw_breakback_k46_whole_best_breakers) (n := 63) (k := 14) (x := "_law_script") (CX := L2.CX0) rfl (by decide) (by kernel_rfl) ⟨rfl, by decide, by decide⟩ ?F (fun _ _ _ _ z => z)
    intro w mg fa h Y G hmg0
    obtain ⟨K, KX, c⟩ := Y
    have hmg : mg ("law" : PySem.Str) = some (.ref fa) := by
      have e : (HandSHeadRun.topDef (OpenLaw.row PySem.Challenge.rw_breakback_k46_whole_best_breakers).prog 126).name = ("law" : PySem.Str) := by kernel_rfl
      rw [← e]
      exact hmg0
    obtain ⟨fd, hb, hF⟩ := BB.facts (P := (PySem.Challenge.rw_breakback_k46_whole_best_breakers).prog) (w := w) KX G hmg c
    exact ⟨K, fd, BB.sp_law K, KX, hb, fun H a ns hl _ hS => ⟨a, ns, rfl, hS, Nat.le_trans hl (by decide), fun _ => rfl⟩, hF⟩
